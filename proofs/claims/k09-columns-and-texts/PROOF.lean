import PyProof.Rows.All
import Wide.All
import OpenK.AllK
import Wide.FinOn
import HandS.ForMost
import HandS.Set
import HandS.SetBool
import PyProof.Rows.SortShellAny
import KE.KOpsOwn
import HandS.Star
import HandS.ClsMeth
import HandS.Property
import HandS.CallRecv
import HandS.Codes
import HandS.Wide
import HandS.IsInst
import HandS.RaiseMore
import HandS.Walk
import HandS.ListItems
import HandS.DictComp
import HandS.FStr
import HandS.StrMore
import HandS.Flow
import KE.KxField
import PyProof.Rows.StrIntSpec
import PyProof.StrOps2
import HandS.Steps
import PySem.Challenge.RW_countsheld_k09_columns_and_texts
set_option Elab.async false
set_option linter.all false
set_option maxRecDepth 100000
set_option maxHeartbeats 4000000
namespace Cs
open PySem L2
def top (i : Nat) : Stmt := PySem.Challenge.pw_countsheld_k09_columns_and_texts.main.body.getD i (.Pass ⟨0, 0, 0, 0⟩)
abbrev s_BadWord_init : Stmt := inClass (top 3) 0
theorem sc_BadWord_init : FnScope ["self", "word"] ["self", "word"] (defScope s_BadWord_init) :=
  ⟨rfl, rfl, rfl, by decide +kernel, rfl, by decide +kernel, by decide +kernel⟩
abbrev s_BadNumber_init : Stmt := inClass (top 4) 0
theorem sc_BadNumber_init : FnScope ["self", "number"] ["self", "number"] (defScope s_BadNumber_init) :=
  ⟨rfl, rfl, rfl, by decide +kernel, rfl, by decide +kernel, by decide +kernel⟩
abbrev s_BadCounts_init : Stmt := inClass (top 5) 0
theorem sc_BadCounts_init : FnScope ["self", "at"] ["self", "at"] (defScope s_BadCounts_init) :=
  ⟨rfl, rfl, rfl, by decide +kernel, rfl, by decide +kernel, by decide +kernel⟩
abbrev s_NoDivisor_init : Stmt := inClass (top 6) 0
theorem sc_NoDivisor_init : FnScope ["self", "word"] ["self", "word"] (defScope s_NoDivisor_init) :=
  ⟨rfl, rfl, rfl, by decide +kernel, rfl, by decide +kernel, by decide +kernel⟩
abbrev s_is_integer : Stmt := top 8
theorem sc_is_integer : FnScope ["thing"] ["thing"] (defScope s_is_integer) :=
  ⟨rfl, rfl, rfl, by decide +kernel, rfl, by decide +kernel, by decide +kernel⟩
abbrev s_is_word : Stmt := top 11
theorem sc_is_word : FnScope ["thing", "sign"] ["thing"] (defScope s_is_word) :=
  ⟨rfl, rfl, rfl, by decide +kernel, rfl, by decide +kernel, by decide +kernel⟩
abbrev s_is_small : Stmt := top 12
theorem sc_is_small : FnScope ["thing"] ["thing"] (defScope s_is_small) :=
  ⟨rfl, rfl, rfl, by decide +kernel, rfl, by decide +kernel, by decide +kernel⟩
abbrev s_distinct : Stmt := top 13
theorem sc_distinct : FnScope ["words", "word"] ["words"] (defScope s_distinct) :=
  ⟨rfl, rfl, rfl, by decide +kernel, rfl, by decide +kernel, by decide +kernel⟩
abbrev s_is_pair : Stmt := top 15
theorem sc_is_pair : FnScope ["thing"] ["thing"] (defScope s_is_pair) :=
  ⟨rfl, rfl, rfl, by decide +kernel, rfl, by decide +kernel, by decide +kernel⟩
abbrev s_joint_words : Stmt := top 16
theorem sc_joint_words : FnScope ["one", "other"] ["one", "other"] (defScope s_joint_words) :=
  ⟨rfl, rfl, rfl, by decide +kernel, rfl, by decide +kernel, by decide +kernel⟩
abbrev s_Counts_init : Stmt := inClass (top 17) 0
theorem sc_Counts_init : FnScope ["self", "pairs", "numbers", "word", "held", "number"] ["self", "pairs", "numbers"] (defScope s_Counts_init) :=
  ⟨rfl, rfl, rfl, by decide +kernel, rfl, by decide +kernel, by decide +kernel⟩
abbrev s_Counts_of : Stmt := inClass (top 17) 1
theorem sc_Counts_of : FnScope ["cls", "pairs", "at", "pair"] ["cls", "pairs"] (defScope s_Counts_of) :=
  ⟨rfl, rfl, rfl, by decide +kernel, rfl, by decide +kernel, by decide +kernel⟩
abbrev s_Counts_words : Stmt := inClass (top 17) 3
theorem sc_Counts_words : FnScope ["self"] ["self"] (defScope s_Counts_words) :=
  ⟨rfl, rfl, rfl, by decide +kernel, rfl, by decide +kernel, by decide +kernel⟩
abbrev s_Counts_pairs : Stmt := inClass (top 17) 4
theorem sc_Counts_pairs : FnScope ["self", "word"] ["self"] (defScope s_Counts_pairs) :=
  ⟨rfl, rfl, rfl, by decide +kernel, rfl, by decide +kernel, by decide +kernel⟩
abbrev s_Counts_columns : Stmt := inClass (top 17) 7
theorem sc_Counts_columns : FnScope ["self", "words", "lines", "word", "number"] ["self", "words"] (defScope s_Counts_columns) :=
  ⟨rfl, rfl, rfl, by decide +kernel, rfl, by decide +kernel, by decide +kernel⟩
abbrev s_Counts_getitem : Stmt := inClass (top 17) 9
theorem sc_Counts_getitem : FnScope ["self", "word"] ["self", "word"] (defScope s_Counts_getitem) :=
  ⟨rfl, rfl, rfl, by decide +kernel, rfl, by decide +kernel, by decide +kernel⟩
abbrev s_Counts_setitem : Stmt := inClass (top 17) 10
theorem sc_Counts_setitem : FnScope ["self", "word", "number"] ["self", "word", "number"] (defScope s_Counts_setitem) :=
  ⟨rfl, rfl, rfl, by decide +kernel, rfl, by decide +kernel, by decide +kernel⟩
abbrev s_Counts_iter : Stmt := inClass (top 17) 11
theorem sc_Counts_iter : FnScope ["self"] ["self"] (defScope s_Counts_iter) :=
  ⟨rfl, rfl, rfl, by decide +kernel, rfl, by decide +kernel, by decide +kernel⟩
abbrev s_Counts_contains : Stmt := inClass (top 17) 12
theorem sc_Counts_contains : FnScope ["self", "word"] ["self", "word"] (defScope s_Counts_contains) :=
  ⟨rfl, rfl, rfl, by decide +kernel, rfl, by decide +kernel, by decide +kernel⟩
abbrev s_Counts_len : Stmt := inClass (top 17) 13
theorem sc_Counts_len : FnScope ["self"] ["self"] (defScope s_Counts_len) :=
  ⟨rfl, rfl, rfl, by decide +kernel, rfl, by decide +kernel, by decide +kernel⟩
abbrev s_Counts_bool : Stmt := inClass (top 17) 14
theorem sc_Counts_bool : FnScope ["self"] ["self"] (defScope s_Counts_bool) :=
  ⟨rfl, rfl, rfl, by decide +kernel, rfl, by decide +kernel, by decide +kernel⟩
abbrev s_Counts_eq : Stmt := inClass (top 17) 15
theorem sc_Counts_eq : FnScope ["self", "other"] ["self", "other"] (defScope s_Counts_eq) :=
  ⟨rfl, rfl, rfl, by decide +kernel, rfl, by decide +kernel, by decide +kernel⟩
abbrev s_Counts_le : Stmt := inClass (top 17) 16
theorem sc_Counts_le : FnScope ["self", "other", "word"] ["self", "other"] (defScope s_Counts_le) :=
  ⟨rfl, rfl, rfl, by decide +kernel, rfl, by decide +kernel, by decide +kernel⟩
abbrev s_Counts_lt : Stmt := inClass (top 17) 17
theorem sc_Counts_lt : FnScope ["self", "other"] ["self", "other"] (defScope s_Counts_lt) :=
  ⟨rfl, rfl, rfl, by decide +kernel, rfl, by decide +kernel, by decide +kernel⟩
abbrev s_Counts_add : Stmt := inClass (top 17) 18
theorem sc_Counts_add : FnScope ["self", "other", "pairs"] ["self", "other"] (defScope s_Counts_add) :=
  ⟨rfl, rfl, rfl, by decide +kernel, rfl, by decide +kernel, by decide +kernel⟩
abbrev s_Counts_neg : Stmt := inClass (top 17) 19
theorem sc_Counts_neg : FnScope ["self", "pairs", "word"] ["self"] (defScope s_Counts_neg) :=
  ⟨rfl, rfl, rfl, by decide +kernel, rfl, by decide +kernel, by decide +kernel⟩
abbrev s_Counts_abs : Stmt := inClass (top 17) 20
theorem sc_Counts_abs : FnScope ["self", "pairs", "word"] ["self"] (defScope s_Counts_abs) :=
  ⟨rfl, rfl, rfl, by decide +kernel, rfl, by decide +kernel, by decide +kernel⟩
abbrev s_Counts_sub : Stmt := inClass (top 17) 21
theorem sc_Counts_sub : FnScope ["self", "other", "pairs", "word"] ["self", "other"] (defScope s_Counts_sub) :=
  ⟨rfl, rfl, rfl, by decide +kernel, rfl, by decide +kernel, by decide +kernel⟩
abbrev s_Counts_and : Stmt := inClass (top 17) 22
theorem sc_Counts_and : FnScope ["self", "other", "pairs", "word"] ["self", "other"] (defScope s_Counts_and) :=
  ⟨rfl, rfl, rfl, by decide +kernel, rfl, by decide +kernel, by decide +kernel⟩
abbrev s_Counts_or : Stmt := inClass (top 17) 23
theorem sc_Counts_or : FnScope ["self", "other", "pairs", "word"] ["self", "other"] (defScope s_Counts_or) :=
  ⟨rfl, rfl, rfl, by decide +kernel, rfl, by decide +kernel, by decide +kernel⟩
abbrev s_Counts_xor : Stmt := inClass (top 17) 24
theorem sc_Counts_xor : FnScope ["self", "other"] ["self", "other"] (defScope s_Counts_xor) :=
  ⟨rfl, rfl, rfl, by decide +kernel, rfl, by decide +kernel, by decide +kernel⟩
abbrev s_Counts_mul : Stmt := inClass (top 17) 25
theorem sc_Counts_mul : FnScope ["self", "times", "pairs", "word"] ["self", "times"] (defScope s_Counts_mul) :=
  ⟨rfl, rfl, rfl, by decide +kernel, rfl, by decide +kernel, by decide +kernel⟩
abbrev s_Counts_rmul : Stmt := inClass (top 17) 26
theorem sc_Counts_rmul : FnScope ["self", "times"] ["self", "times"] (defScope s_Counts_rmul) :=
  ⟨rfl, rfl, rfl, by decide +kernel, rfl, by decide +kernel, by decide +kernel⟩
abbrev s_Counts_floordiv : Stmt := inClass (top 17) 27
theorem sc_Counts_floordiv : FnScope ["self", "other", "word"] ["self", "other"] (defScope s_Counts_floordiv) :=
  ⟨rfl, rfl, rfl, by decide +kernel, rfl, by decide +kernel, by decide +kernel⟩
abbrev s_Counts_mod : Stmt := inClass (top 17) 28
theorem sc_Counts_mod : FnScope ["self", "other", "times"] ["self", "other"] (defScope s_Counts_mod) :=
  ⟨rfl, rfl, rfl, by decide +kernel, rfl, by decide +kernel, by decide +kernel⟩
abbrev s_Counts_iadd : Stmt := inClass (top 17) 29
theorem sc_Counts_iadd : FnScope ["self", "other", "result"] ["self", "other"] (defScope s_Counts_iadd) :=
  ⟨rfl, rfl, rfl, by decide +kernel, rfl, by decide +kernel, by decide +kernel⟩
abbrev s_Counts_isub : Stmt := inClass (top 17) 30
theorem sc_Counts_isub : FnScope ["self", "other", "result"] ["self", "other"] (defScope s_Counts_isub) :=
  ⟨rfl, rfl, rfl, by decide +kernel, rfl, by decide +kernel, by decide +kernel⟩
abbrev s_Counts_iand : Stmt := inClass (top 17) 31
theorem sc_Counts_iand : FnScope ["self", "other", "result"] ["self", "other"] (defScope s_Counts_iand) :=
  ⟨rfl, rfl, rfl, by decide +kernel, rfl, by decide +kernel, by decide +kernel⟩
abbrev s_Counts_ior : Stmt := inClass (top 17) 32
theorem sc_Counts_ior : FnScope ["self", "other", "result"] ["self", "other"] (defScope s_Counts_ior) :=
  ⟨rfl, rfl, rfl, by decide +kernel, rfl, by decide +kernel, by decide +kernel⟩
abbrev s_Counts_imul : Stmt := inClass (top 17) 33
theorem sc_Counts_imul : FnScope ["self", "times", "result"] ["self", "times"] (defScope s_Counts_imul) :=
  ⟨rfl, rfl, rfl, by decide +kernel, rfl, by decide +kernel, by decide +kernel⟩
abbrev s_Counts_repr : Stmt := inClass (top 17) 34
theorem sc_Counts_repr : FnScope ["self", "parts", "inside", "word"] ["self"] (defScope s_Counts_repr) :=
  ⟨rfl, rfl, rfl, by decide +kernel, rfl, by decide +kernel, by decide +kernel⟩
abbrev s_l_source : Stmt := top 19
theorem sc_l_source : FnScope ["_law_script"] ["_law_script"] (defScope s_l_source) :=
  ⟨rfl, rfl, rfl, by decide +kernel, rfl, by decide +kernel, by decide +kernel⟩
abbrev s_l_mixed : Stmt := top 20
theorem sc_l_mixed : FnScope ["_law_cell", "_law_count", "_law_first"] ["_law_cell", "_law_count"] (defScope s_l_mixed) :=
  ⟨rfl, rfl, rfl, by decide +kernel, rfl, by decide +kernel, by decide +kernel⟩
abbrev s_l_draw : Stmt := top 21
theorem sc_l_draw : FnScope ["_law_source_here", "_law_size", "_law_at", "_law_cell", "_law_value"] ["_law_source_here", "_law_size"] (defScope s_l_draw) :=
  ⟨rfl, rfl, rfl, by decide +kernel, rfl, by decide +kernel, by decide +kernel⟩
abbrev s_l_word : Stmt := top 22
theorem sc_l_word : FnScope ["_law_source_here", "_law_words", "_law_word_here", "_law_k"] ["_law_source_here"] (defScope s_l_word) :=
  ⟨rfl, rfl, rfl, by decide +kernel, rfl, by decide +kernel, by decide +kernel⟩
abbrev s_l_number : Stmt := top 23
theorem sc_l_number : FnScope ["_law_source_here", "_law_mode", "_law_number_here", "_law_k"] ["_law_source_here"] (defScope s_l_number) :=
  ⟨rfl, rfl, rfl, by decide +kernel, rfl, by decide +kernel, by decide +kernel⟩
abbrev s_l_pairs : Stmt := top 24
theorem sc_l_pairs : FnScope ["_law_source_here", "_law_most", "_law_pairs_here", "_law_k", "_law_word_here"] ["_law_source_here", "_law_most"] (defScope s_l_pairs) :=
  ⟨rfl, rfl, rfl, by decide +kernel, rfl, by decide +kernel, by decide +kernel⟩
abbrev s_l_model : Stmt := top 25
theorem sc_l_model : FnScope ["_law_pairs_here", "_law_model_here", "_law_word_here", "_law_number_here"] ["_law_pairs_here"] (defScope s_l_model) :=
  ⟨rfl, rfl, rfl, by decide +kernel, rfl, by decide +kernel, by decide +kernel⟩
abbrev s_l_told : Stmt := top 26
theorem sc_l_told : FnScope ["_law_model_here", "_law_words", "_law_word_here"] ["_law_model_here"] (defScope s_l_told) :=
  ⟨rfl, rfl, rfl, by decide +kernel, rfl, by decide +kernel, by decide +kernel⟩
abbrev s_l_is_integer : Stmt := top 27
theorem sc_l_is_integer : FnScope ["_law_thing"] ["_law_thing"] (defScope s_l_is_integer) :=
  ⟨rfl, rfl, rfl, by decide +kernel, rfl, by decide +kernel, by decide +kernel⟩
abbrev s_l_equal : Stmt := top 28
theorem sc_l_equal : FnScope ["_law_counts", "_law_model_here", "_law_told_here", "_law_pair"] ["_law_counts", "_law_model_here"] (defScope s_l_equal) :=
  ⟨rfl, rfl, rfl, by decide +kernel, rfl, by decide +kernel, by decide +kernel⟩
abbrev s_l_commas : Stmt := top 29
theorem sc_l_commas : FnScope ["_law_number_here", "_law_digits", "_law_groups", "_law_text"] ["_law_number_here"] (defScope s_l_commas) :=
  ⟨rfl, rfl, rfl, by decide +kernel, rfl, by decide +kernel, by decide +kernel⟩
abbrev s_l_line : Stmt := top 30
theorem sc_l_line : FnScope ["_law_word_here", "_law_number_here"] ["_law_word_here", "_law_number_here"] (defScope s_l_line) :=
  ⟨rfl, rfl, rfl, by decide +kernel, rfl, by decide +kernel, by decide +kernel⟩
abbrev s_law : Stmt := top 31
theorem sc_law : FnScope ["_law_script", "_law_source_here", "_law_pairs_here", "_law_model_here", "_law_counts", "_law_words", "_law_k", "_law_word_here", "_law_lines", "_law_told_here", "_law_inside", "_law_pair"] ["_law_script"] (defScope s_law) :=
  ⟨rfl, rfl, rfl, by decide +kernel, rfl, by decide +kernel, by decide +kernel⟩
end Cs

set_option Elab.async false
set_option linter.all false
set_option maxRecDepth 100000
set_option maxHeartbeats 4000000
/-! Sets of texts as a set comprehension makes them: a list of members without repeats, up to order; and sorted(..) of such a set. -/
namespace Cs
open PySem PySem.Spec PyProof.Rows L2

def tkey (e : Int × Value) : Str := match e.2 with | .str z _ => z | _ => Str.empty
def TGood (w : World) (e : Int × Value) : Prop := ∃ z tk, e.2 = Value.str z tk ∧ e.1 = hashStr w z
/-- a set object whose members are the texts zs (in some order) -/
def TSet (w : World) (h : Heap) (a : Addr) (zs : List Str) : Prop :=
  ∃ o es ep t, h.get? a = some o ∧ o.ExactSet ∧ o.data = .set es ep t ∧ (∀ e ∈ es.toList, TGood w e)
    ∧ (es.toList.map tkey).Perm zs ∧ zs.Nodup ∧ es.size < scanBound ∧ t.fits es.size = true
    ∧ Ris t.place.toList ∧ (w.params.followText "set-order" = true ∨ t.led = true)

section
variable {P : Program} {w : World} {h h' : Heap} {a : Addr} {zs : List Str}
theorem TSet.there (R : TSet w h a zs) (k : ∀ o, h.get? a = some o → h'.get? a = some o) : TSet w h' a zs := by
  obtain ⟨o, es, ep, t, q, r⟩ := R
  exact ⟨o, es, ep, t, k o q, r⟩
theorem TGood.elems {l : List (Int × Value)} (g : ∀ e ∈ l, TGood w e) : ElemsOf (PySem.strKind P w) l := fun e m => by
  obtain ⟨z, tk, e1, e2⟩ := g e m
  refine ⟨⟨z, ?_, e2⟩, ?_⟩
  · rw [e1]
    show Value.isStrOf z (.str z tk) = true
    simp [Value.isStrOf]
  · rw [e1]
    rfl
theorem TGood.is_iff {e : Int × Value} (g : TGood w e) (z : Str) : (PySem.strKind P w).is z e.2 = true ↔ tkey e = z := by
  obtain ⟨y, tk, e1, _⟩ := g
  unfold tkey
  rw [e1]
  show Value.isStrOf z (.str y tk) = true ↔ y = z
  simp [Value.isStrOf]
theorem TGood.mem_iff {l : List (Int × Value)} (g : ∀ e ∈ l, TGood w e) (z : Str) : z ∈ l.map tkey ↔ ∃ e ∈ l, (PySem.strKind P w).is z e.2 = true := by
  constructor
  · intro m
    obtain ⟨e, he, q⟩ := List.mem_map.mp m
    exact ⟨e, he, (TGood.is_iff (g e he) z).mpr q⟩
  · rintro ⟨e, he, q⟩
    exact List.mem_map.mpr ⟨e, he, (TGood.is_iff (g e he) z).mp q⟩
end

section
variable {P : Program} {w : World} {A : Around} {E : Value → Shared → Prop} {s : Shared} {a : Addr} {zs : List Str}
/-- the end of an addition: the table is stored, laid anew where it is too full -/
theorem tset_tail {g : Bool → Sem Unit} (hg : ∀ (b : Bool) (s1 : Shared) (Q1 : Unit → Shared → Prop), Q1 () s1 → wpAny (model P w) A (g b) Q1 E s1)
    {o : Obj} {es es1 : Array (Int × Value)} {ep : Nat} {t t1 : SetTable} (ho : s.heap.get? a = some o) (hex : o.ExactSet) (hd : o.data = .set es ep t)
    (gd : ∀ e ∈ es1.toList, TGood w e) (pz : (es1.toList.map tkey).Perm zs) (nz : zs.Nodup) (hb : es1.size < scanBound) (hf : t1.fits es1.size = true)
    (hr : Ris t1.place.toList) (hl : w.params.followText "set-order" = true ∨ t1.led = true) {dm : Bool} {R : Option Bool → Shared → Prop}
    (hR : ∀ h', Heap.SameBut a s.heap h' → TSet w h' a zs → R (some true) { s with heap := h' }) :
    wpAny (model P w) A (do
        storeSet a es1 t1
        if (!dm && t1.tooFull) = true then do
            g (relayAll t1 es1 (SetTable.grown es1.size)).2.2
            storeSet a (relayAll t1 es1 (SetTable.grown es1.size)).1 (relayAll t1 es1 (SetTable.grown es1.size)).2.1
            pure (some true)
          else pure (some true)) R E s := by
  refine wpAny_bind (wpAny_storeSet_of ho hd ?_ (fits_of_scanBound hb))
  have ho1 := store_at (es' := es1) (t' := t1) ho hd
  have same := Heap.SameBut.update s.heap a (Obj.putSet es1 t1)
  split
  · have p2 := relayAll_perm t1 es1 (SetTable.grown es1.size)
    have f2 := relayAll_fits t1 es1 (SetTable.grown es1.size)
    have r2 := relayAll_ris t1 es1 (SetTable.grown es1.size)
    have l2 := relayAll_led t1 es1 (SetTable.grown es1.size)
    generalize relayAll t1 es1 (SetTable.grown es1.size) = Z at p2 f2 r2 l2 ⊢
    obtain ⟨es2, t2, gv⟩ := Z
    dsimp only at p2 f2 r2 l2 ⊢
    have sz : es2.size = es1.size := by rw [← Array.length_toList, p2.length_eq, Array.length_toList]
    have hb2 : es2.size < scanBound := sz ▸ hb
    refine wpAny_bind (hg _ _ _ (wpAny_bind (wpAny_storeSet_of ho1 rfl ?_ (fits_of_scanBound hb2))))
    have ho2 := store_at (es' := es2) (t' := t2) ho1 rfl
    exact wpAny_pure (hR _ (same.trans (Heap.SameBut.update _ a _)) ⟨_, es2, _, t2, ho2, hex, rfl, fun e m => gd e (p2.mem_iff.mp m), (p2.map tkey).trans pz, nz, hb2, f2, r2, hl.imp id fun q => by rw [l2]; exact q⟩)
  · exact wpAny_pure (hR _ same ⟨_, es1, _, t1, ho1, hex, rfl, gd, pz, nz, hb, hf, hr, hl⟩)

/-- one text more -/
def addT (zs : List Str) (z : Str) : List Str := if z ∈ zs then zs else zs ++ [z]

theorem tset_hashed {z : Str} {tk : Tok} {Q : Bool → Shared → Prop} (R : TSet w s.heap a zs) (room : zs.length + 1 < scanBound)
    (hQ : ∀ b h', Heap.SameBut a s.heap h' → TSet w h' a (addT zs z) → Q b { s with heap := h' }) :
    wpAny (model P w) A (setAddHashed a (.str z tk) ((PySem.strKind P w).hash z)) Q E s := by
  obtain ⟨o, es, ep, t, ho, hex, hd, gd, pz, nz, hb, hf, hr, hl⟩ := R
  have hkey : (PySem.strKind P w).is z (.str z tk) = true := by
    show Value.isStrOf z (.str z tk) = true
    simp [Value.isStrOf]
  have hsc : (Value.str z tk).scannable = true := rfl
  have hel : ElemsOf (PySem.strKind P w) es.toList := TGood.elems gd
  have hn : es.size = zs.length := by rw [← Array.length_toList, ← pz.length_eq, List.length_map]
  unfold setAddHashed setAddHashedIn
  refine wpAny_holding (wpAny_bind (wpAny_setState_of ho hd hf ?_))
  dsimp only
  rw [byScan_of hsc hb hel]
  simp only [↓reduceIte]
  unfold setAddByScan
  refine wpAny_bind (wpAny_bind (wpAny_rule (wpAny_bind (wpAny_setScan_of hkey ho hd hf hel ?_))))
  cases hfi : List.findIdx? (fun e => (PySem.strKind P w).is z e.2) es.toList with
  | some j =>
    dsimp only
    obtain ⟨hj, pj, _⟩ := List.findIdx?_eq_some_iff_getElem.mp hfi
    have hin : z ∈ zs := pz.mem_iff.mp ((TGood.mem_iff (P := P) gd z).mpr ⟨_, List.getElem_mem hj, pj⟩)
    have q := hQ false s.heap (Heap.SameBut.refl a s.heap)
    rw [show addT zs z = zs from if_pos hin] at q
    exact wpAny_pure (wpAny_pure (q ⟨o, es, ep, t, ho, hex, hd, gd, pz, nz, hb, hf, hr, hl⟩))
  | none =>
    dsimp only
    have hout : z ∉ zs := fun m => by
      obtain ⟨e, he, q⟩ := (TGood.mem_iff (P := P) (w := w) gd z).mp (pz.mem_iff.mpr m)
      have c := List.findIdx?_eq_none_iff.mp hfi e he
      rw [q] at c
      cases c
    have hgw : ∀ (b : Bool) {s1 : Shared} {Q1 : Unit → Shared → Prop}, Q1 () s1 → wpAny (model P w) A (match b with | true => rule "set.scan.the-table-gave-way" | false => pure ()) Q1 E s1 :=
      fun b s1 Q1 q => by cases b <;> first | exact wpAny_pure q | exact wpAny_rule q
    have p1 := layNew_perm t es ((PySem.strKind P w).hash z) (.str z tk)
    have f1 := layNew_fits t es ((PySem.strKind P w).hash z) (.str z tk)
    have r1 := layNew_ris t es ((PySem.strKind P w).hash z) (.str z tk) hr
    have l1 := layNew_led t es ((PySem.strKind P w).hash z) (.str z tk)
    generalize layNew t es ((PySem.strKind P w).hash z) (.str z tk) = Z at p1 f1 r1 l1 ⊢
    obtain ⟨es1, t1, dm, gv⟩ := Z
    dsimp only at p1 f1 r1 l1 ⊢
    rw [Array.toList_push] at p1
    have gd1 : ∀ e ∈ es1.toList, TGood w e := fun e m => by
      rcases List.mem_append.mp (p1.mem_iff.mp m) with q | q
      · exact gd e q
      · rw [List.mem_singleton.mp q]
        exact ⟨z, tk, rfl, rfl⟩
    have ez : addT zs z = zs ++ [z] := if_neg hout
    have pz1 : (es1.toList.map tkey).Perm (addT zs z) := by
      rw [ez]
      refine (p1.map tkey).trans ?_
      rw [List.map_append]
      exact pz.append_right _
    have nz1 : (addT zs z).Nodup := by
      rw [ez]
      exact nd_snoc nz hout
    have sz1 : es1.size = zs.length + 1 := by
      rw [← Array.length_toList, p1.length_eq, List.length_append, Array.length_toList, hn]
      rfl
    have hb1 : es1.size < scanBound := by rw [sz1]; exact room
    have hl1 : w.params.followText "set-order" = true ∨ t1.led = true := hl.imp id fun q => by rw [l1]; exact q
    have fin : ∀ h', Heap.SameBut a s.heap h' → TSet w h' a (addT zs z) → Q true { s with heap := h' } := hQ true
    refine wpAny_bind (hgw _ ?_)
    split
    · refine wpAny_bind ?_
      rw [hashByValue_scannable 8 hsc]
      refine wpAny_pure ?_
      refine tset_tail ?_ ho hex hd gd1 pz1 nz1 hb1 ?_ ?_ ?_ ?_
      · intro b s1 Q1 q
        cases b <;> first | exact wpAny_pure q | exact wpAny_rule q
      · first | (split <;> first | exact f1 | exact SetTable.fits_plain_off f1) | exact f1
      · first | (split <;> exact r1) | exact r1
      · first | (split <;> exact hl1) | exact hl1
      · intro h' sb r
        dsimp only
        exact wpAny_pure (fin h' sb r)
    · refine wpAny_bind (wpAny_pure ?_)
      simp only [↓reduceIte]
      refine tset_tail ?_ ho hex hd gd1 pz1 nz1 hb1 f1 r1 hl1 ?_
      · intro b s1 Q1 q
        cases b <;> first | exact wpAny_pure q | exact wpAny_rule q
      · intro h' sb r
        dsimp only
        exact wpAny_pure (fin h' sb r)

theorem TSet.typeIs {zs : List Str} (R : TSet w s.heap a zs) : s.TypeIs (.ref a) "set" := by
  obtain ⟨o, es, ep, t, ho, hex, _⟩ := R
  exact ⟨o, ho, hex.1⟩
/-- s.add(z) -/
theorem tset_add {z : Str} {tk : Tok} {Q : Value → Shared → Prop} (R : TSet w s.heap a zs) (room : zs.length + 1 < scanBound)
    (hQ : ∀ h', Heap.SameBut a s.heap h' → TSet w h' a (addT zs z) → Q .none { s with heap := h', toks := s.toks + 1 }) :
    wpAny (model P w) A (call (.builtin "set.add") [.ref a, .str z tk]) Q E s := by
  have hkey : (PySem.strKind P w).is z (.str z tk) = true := by
    show Value.isStrOf z (.str z tk) = true
    simp [Value.isStrOf]
  refine wpAny_call_entry F.slot_set_add R.typeIs F.entry_set_add ?_ (F.args_set_add_2 _ _)
  unfold Builtin.«set.add» Builtin.Frozenset.oneOther
  simp only [List.isEmpty_nil, bind_assoc]
  unfold Builtin.Frozenset.addrOf setAdd
  refine wpAny_bind (wpAny_pure ?_)
  try dsimp only
  refine wpAny_bind (wpAny_pure ?_)
  try dsimp only
  refine wpAny_bind (wpAny_holding (wpAny_bind ((PySem.strKind P w).pyHash hkey ?_)))
  refine tset_hashed (s := { s with toks := s.toks + 1 }) R room fun b h' sb r => ?_
  show wpAny _ _ (ret Value.none) _ _ _
  exact wpAny_pure ⟨_, rfl, hQ h' sb r⟩
theorem tset_fresh {h : Heap} (w : World) : TSet w (h.push { cls := .type "set", dict := none, data := .set #[] 0 (.fresh 0 0 (!w.params.followText "set-order")) }) h.objs.size [] := by
  refine ⟨_, #[], 0, _, Heap.get?_push_size _ rfl, ⟨rfl, rfl, rfl⟩, rfl, (fun e m => by simp at m), .nil, .nil, by decide, rfl, .nil, ?_⟩
  show _ ∨ (!w.params.followText "set-order") = true
  cases w.params.followText "set-order"
  · exact Or.inr rfl
  · exact Or.inl rfl

/-! ### sorted -/
theorem strs_of : ∀ (l : List Value), (∀ v ∈ l, ∃ z tk, v = Value.str z tk) → StrsAre l (l.map fun v => tkey (0, v))
  | [], _ => .nil
  | v :: l, h => by
    obtain ⟨z, tk, rfl⟩ := h v List.mem_cons_self
    exact .cons z tk (strs_of l fun u m => h u (List.mem_cons_of_mem _ m))
theorem tset_sorted {Q : Value → Shared → Prop} (R : TSet w s.heap a zs) (hh : A.handled = none)
    (hQ : ∀ s' p (out : Array Value) (c : Nat) (ys : List Str), (∀ b o, s.heap.get? b = some o → s'.heap.get? b = some o) → s'.gens = s.gens → s'.os = s.os → s.heap.objs.size ≤ p →
      s'.heap.get? p = some (seqObj "list" out c) → StrsAre out.toList ys → ys.Perm zs → sortedS ys = true → Q (.ref p) s') :
    wpAny (model P w) A (call (.builtin "sorted") [.ref a]) Q E s := by
  obtain ⟨o, es, ep, t, ho, hex, hd, gd, pz, nz, hb, hf, hr, hl⟩ := R
  refine Calls.call_function_entry kind_sorted plain_sorted entry_sorted (args_sorted1 _) ?_
  unfold Builtin.«sorted»
  refine wpAny_bind (m := checkCount "sorted" 1 1 _) (wpAny_pure ?_)
  refine wpAny_bind (collect_set (A := A.in1) hh ⟨o, ho, hex.1, hd⟩ hf hb hr hl fun s1 vs k1 hz g1 o1 pm => ?_)
  have hvl : vs.length = es.size := by rw [pm.length_eq, List.length_map, Array.length_toList]
  have hS : StrsAre vs (vs.map fun v => tkey (0, v)) := strs_of vs fun v hv => by
    obtain ⟨e, he, q⟩ := List.mem_map.mp (pm.mem_iff.mp hv)
    obtain ⟨z, tk, e1, _⟩ := gd e he
    exact ⟨z, tk, by rw [← q]; exact e1⟩
  have pk : (vs.map fun v => tkey (0, v)).Perm zs := by
    have q := pm.map fun v => tkey (0, v)
    rw [List.map_map] at q
    exact q.trans pz
  have hln : vs.length ≤ sizeLine := by
    rw [hvl]
    exact fits_of_scanBound hb
  refine wpAny_bind (wpAny_newList ?_ hln)
  have hoL : (s1.heap.push (seqObj "list" vs.toArray 0)).get? s1.heap.objs.size = some (seqObj "list" vs.toArray 0) := Heap.get?_push_size _ rfl
  refine wpAny_bind (wpAny_holding (wpAny_call_entry slot_list_sort ⟨_, hoL, rfl⟩ entry_list_sort (list_sort_treeKAny strKind_oneLt hoL hS.keysOf (fun v1 v2 rest e => keyKind_strs (by rw [← e]; exact hS)) hln fun st' hp hs => ⟨_, rfl, ?_⟩) (args_list_sort _)))
  obtain ⟨ys, a1, a2, a3⟩ := sorted_out_str hS hp hs
  generalize (arrOf st').map (·.2) = out at a1 ⊢
  obtain ⟨c, hc⟩ := sortedHeap_at (vs := vs) (out := out) hoL
  refine wpAny_pure ⟨_, rfl, hQ _ s1.heap.objs.size out c ys (fun b u e => ?_) g1 o1 hz hc a1 (a2.trans pk) a3⟩
  have q := k1 b u e
  have hlt := Heap.lt_size q
  show (sortedHeap (s1.heap.push (seqObj "list" vs.toArray 0)) s1.heap.objs.size vs out).get? b = some u
  rw [sortedHeap_old (Nat.ne_of_lt hlt) (by rw [size_push']; exact Nat.lt_succ_of_lt hlt)]
  exact Heap.get?_push_of_some _ q
end

/-! ### over the abstract heap -/
def TSetO (w : World) (a : Addr) (zs : List Str) : HO := .ext fun h => TSet w h a zs
theorem tsetO_new {w : World} {P : Program} {H : Hp} {h : Heap} {a : Addr} {zs : List Str} (R : TSet w h a zs) : ObjOk P w H h a (TSetO w a zs) := by
  have ⟨o, _, _, _, ho, _⟩ := R
  exact ⟨R, ⟨o, ho⟩, fun h1 h2 p k => TSet.there p k⟩
section
variable {X : Cx} {pins : List (Addr × Obj)} {σ : L2.St} {H : Hp} {s : Shared} {zs : List Str}
theorem tsetO_get {a : Addr} (I : Inv X pins σ H s) (ha : H a = some (TSetO X.w a zs)) : TSet X.w s.heap a zs := (I.hok a _ ha).1
theorem tsetO_add {E : Value → Shared → Prop} {D : Addr} {z : Str} {tk : Tok} {Q : Value → Shared → Prop} (I : Inv X pins σ H s) (hD : H D = some (TSetO X.w D zs)) (room : zs.length + 1 < scanBound)
    (h : ∀ s', Inv X pins σ (upd H D (TSetO X.w D (addT zs z))) s' → Q .none s') : wpAny (model X.prog X.w) X.A (call (.builtin "set.add") [.ref D, .str z tk]) Q E s := by
  refine tset_add (tsetO_get I hD) room fun h' sb new => h _ ?_
  have he : ∃ u, h'.get? D = some u := by
    have ⟨o, _, _, _, ho, _⟩ := new
    exact ⟨o, ho⟩
  exact I.write (e := D) (t' := s.toks + 1) (by rw [hD]; trivial) (.inl rfl) (fun b u hb hu => (sb.2 b hb).trans hu) he (tsetO_new new)
/-- sorted(s), s a set of texts -/
def rSortT (w : World) : List V → Hp → VK → Prop := fun vs H Q => ∃ (a : Addr) (zs : List Str), vs = [V.ref a] ∧ H a = some (TSetO w a zs) ∧ zs.length ≤ 100000 ∧
  ∀ (ys : List Str) (p : Addr), ys.Perm zs → sortedS ys = true → H p = none → Q (.ref p) (upd H p (.lst (ys.map V.str)))
theorem cr_sortT (hc : X.calm = true) : CallR X (.builtin "sorted") (rSortT X.w) := by
  intro pins s σ H vs us Q I r h
  obtain ⟨a, zs, rfl, ha, hz, q⟩ := h
  rw [Vals.ref1 r]
  refine tset_sorted (tsetO_get I ha) (I.ok.hd hc) fun s' p out c ys k g o hp hg hS hperm hsrt => ?_
  have hlen : (ys.map V.str).length ≤ sizeLine := by
    rw [List.length_map, hperm.length_eq]
    exact Nat.le_trans hz (by decide)
  have hn : H p = none := I.hok.fresh hp
  have J : Inv X pins σ (upd H p (.lst (ys.map V.str))) { s with heap := s'.heap, gens := s'.gens, drawn := s'.drawn, toks := s'.toks } :=
    I.call (ch := []) (Un.laid k hp hn) (I.hok.laid k hp ⟨hlen, out.toList, c, vals_of_strs hS, hg⟩) (by rw [g]; exact I.bare) (fun _ m => nomatch m)
  have e : s' = { s with heap := s'.heap, gens := s'.gens, drawn := s'.drawn, toks := s'.toks } := by
    cases s'
    cases s
    cases o
    rfl
  rw [e]
  exact ⟨.ref p, _, J, rfl, q ys p hperm hsrt hn⟩
end
end Cs

set_option Elab.async false
set_option linter.all false
set_option maxRecDepth 100000
set_option maxHeartbeats 4000000
/-! {elt for target in iter if ..} where elt is a text. -/
namespace Cs
open PySem PySem.Spec PyProof.Rows L2

/-- one turn of such a comprehension: the text that comes is put into the set at D -/
def tScT (w : World) (wi : TI) (g : TG) (tt : TT) (te : TE) (vs : List Nat) : TE := fun σ H Q => wi σ H fun J H1 => ∀ D, H1 D = none →
  ∃ W : Nat → Nat → Hp → Prop, (∃ m, W 0 m (upd H1 D (TSetO w D []))) ∧ ∀ i m H, W i m H →
  (J.stop i H ∧ Q (.ref D) H) ∨ (J.go i H ∧ ∃ Nx : Hp → Prop, (∀ H', Nx H' → ∃ m', m' < m ∧ W (i + 1) m' H') ∧
    ∀ x H', J.yld i H x H' → g x (wipe σ vs) H' fun σ2 H2 => wipe σ2 vs = wipe σ vs ∧ tt σ2 H2 fun b H3 =>
    if b = true then te σ2 H3 fun y H4 => ∃ (z : Str) (zs : List Str), y = .str z ∧ H4 D = some (TSetO w D zs) ∧ zs.length + 1 < scanBound ∧ Nx (upd H4 D (TSetO w D (addT zs z))) else Nx H3)
section
variable {X : Cx}
theorem scT_core {pins : List (Addr × Obj)} {s : Shared} {σ : L2.St} {H : Hp} {Q : VK} {elt tg iter : Expr} {ifs : List Expr} {scope : Scope} {own : List (PySem.Str × Nat)} {pos pos' : Pos}
    {wi : TI} {g : TG} {tt : TT} {te : TE} {use : Option (Value → Sem Unit)} {Qf : Value → Shared → Prop}
    (hc : X.calm = true) (hN : X.N.Nodup) (I : Inv X pins σ H s) (hi : PI X tg iter wi) (ok : BlkOk X.N X.env.scope scope own)
    (hg : ∀ (s : Shared) (H : Hp) (C : Addr) (cl : List (PySem.Str × Addr)) (fp : List Addr), PG (X.blk s H scope (compEnvC scope cl C X.env) fp) tg g)
    (ht : ∀ (s : Shared) (H : Hp) (C : Addr) (cl : List (PySem.Str × Addr)) (fp : List Addr), PTs (X.blk s H scope (compEnvC scope cl C X.env) fp) ifs tt)
    (he : ∀ (s : Shared) (H : Hp) (C : Addr) (cl : List (PySem.Str × Addr)) (fp : List Addr), PE (X.blk s H scope (compEnvC scope cl C X.env) fp) elt te)
    (hs : ∀ x, foldedSetIterable iter X.env x = pure x) (h : tScT X.w wi g tt te (own.map (·.2)) σ H Q)
    (hRR : ∀ D C s' m H', Inv X pins σ H' s' → Q (.ref D) H' → s'.heap.Ns C m → FpOk X pins H' C → compPost (model X.prog X.w) X.A X.xe use Qf (.ref D) C (.ok .next) s') :
    wpAny (model X.prog X.w) X.A (comprehension (.SetComp elt [⟨tg, iter, ifs, 0⟩] scope pos) scope X.env pos' (newSet (.type "set")) false (eval iter X.env) use) Qf X.xe s := by
  have cells : ∀ y ∈ scope.names, y.2 = .free → ∃ c, X.env.cells.lookup y.1 = some c := fun y hy e => (ok.free y hy e).elim (fun k => I.ok.has _ (.inl k)) fun k => I.ok.has _ (.inr k)
  refine wpAny_comprehension_free (use := use) rfl hs (closure_ok cells) ok.kind (fun y hy e => by rw [ok.uniq y hy, e]) (thn (hi.run pins s σ H _ I h) fun xv sA hx => thn hx fun itv sB hB => ?_)
  obtain ⟨it, fp, tn, J, HB, e, IB, T, stB, fB, q⟩ := hB
  subst e
  refine PpSet.newSet_ok (newEnv_comp ?_)
  generalize hD : sB.heap.objs.size = D
  obtain ⟨W, ⟨m0, w0⟩, turn⟩ := q D (IB.hok.fresh (Nat.le_of_eq hD))
  generalize hsC : ({ sB with heap := sB.heap.push { cls := .type "set", dict := none, data := .set #[] 0 (.fresh 0 0 (!X.w.params.followText "set-order")) } } : Shared) = sC
  have hpC : sC.heap = sB.heap.push { cls := .type "set", dict := none, data := .set #[] 0 (.fresh 0 0 (!X.w.params.followText "set-order")) } := by rw [← hsC]
  generalize hHC : upd HB D (TSetO X.w D []) = HC at w0
  have IC : Inv X pins σ HC sC := by
    rw [← hsC, ← hHC]
    refine IB.laid (t' := sB.toks) (fun b o e => Heap.get?_push_of_some _ e) (Nat.le_of_eq hD) ?_
    rw [← hD]
    exact tsetO_new (tset_fresh X.w)
  have below : ∀ b ∈ fp, b < sB.heap.objs.size := fun b hb => (T.obj _ _ stB b hb).elim fun o z => Heap.lt_size z.1
  have fC : ∀ b ∈ fp, FpOk X pins HC b ∧ b < sC.heap.objs.size := fun b hb => by
    have lt := below b hb
    refine ⟨⟨?_, (fB b hb).2⟩, by rw [hpC, Heap.size_push]; exact Nat.lt_succ_of_lt lt⟩
    rw [← hHC, upd_ne (by rw [← hD]; exact Nat.ne_of_lt lt)]
    exact (fB b hb).1
  have stC : tn 0 sC.heap := T.keep _ _ _ stB fun b _ o e => by rw [hpC]; exact Heap.get?_push_of_some _ e
  have IK := block_start IC ok hN fC
  show codeAny _ _ (.compStart (.SetComp elt [⟨tg, iter, ifs, 0⟩] scope pos) 0 (.ref it) (.ref D) (compEnvC scope (cellsFrom (sC.heap.objs.size + 1) scope.names (cloFrom X.env.cells scope.names [])) sC.heap.objs.size X.env))
    (compPost (model X.prog X.w) X.A X.xe use Qf (.ref D) sC.heap.objs.size) { sC with heap := pushCells (sC.heap.push { cls := .type "dict", data := .dict #[] }) scope.names }
  generalize cellsFrom (sC.heap.objs.size + 1) scope.names (cloFrom X.env.cells scope.names []) = cl at IK ⊢
  have pg := hg sC HC sC.heap.objs.size cl fp
  have pt := ht sC HC sC.heap.objs.size cl fp
  have pe := he sC HC sC.heap.objs.size cl fp
  have nC : ∀ b ∈ fp, HC b = none := fun b hb => (fC b hb).1.1
  generalize hce : compEnvC scope cl sC.heap.objs.size X.env = ce at IK pg pt pe ⊢
  have locals : ce.locals = sC.heap.objs.size := by subst hce; rfl
  generalize hsK : ({ sC with heap := pushCells (sC.heap.push { cls := .type "dict", data := .dict #[] }) scope.names } : Shared) = sK at IK ⊢
  have stK : tn 0 sK.heap := T.keep _ _ _ stC fun b _ o e => by rw [← hsK]; exact pushCells_keeps _ _ _ _ (Heap.get?_push_of_some _ e)
  have stand : ∀ {σ' : L2.St} {H' : Hp} {s' : Shared}, Inv (X.blk sC HC scope ce fp) [] σ' H' s' → (∀ b ∈ fp, H' b = none) → ∀ b ∈ fp, FpOk (X.blk sC HC scope ce fp) [] H' b := fun {σ' H' s'} I' hn b hb =>
    ⟨hn b hb, (I'.ok.exf b hb).1, I'.ok.exfs b hb, .inl hb, fun x c e => (I'.ok.exf b hb).2 x c e, fun p hp => absurd (show p ∈ ([] : List (Addr × Obj)) ++ [] from hp) (by simp)⟩
  have loop : codeAny (model X.prog X.w) X.A (.compLoop (.SetComp elt [⟨tg, iter, ifs, 0⟩] scope pos) 0 (.ref it) (.ref D) ce) (compPost (model X.prog X.w) X.A X.xe use Qf (.ref D) sC.heap.objs.size) sK := by
    refine PpSet.compLoopS_any (fun n s' => ∃ i H', Inv (X.blk sC HC scope ce fp) [] (wipe σ (own.map (·.2))) H' s' ∧ tn i s'.heap ∧ (∀ b ∈ fp, H' b = none) ∧ W i n H') ?_ m0 ⟨0, HC, IK, stK, nC, w0⟩
    rintro n sL ⟨i, HL, IL, stL, nL, wL⟩
    rcases turn i n HL wL with ⟨stop, qq⟩ | ⟨go, Nx, hNx, step⟩
    · refine thnF (T.done (X.blk sC HC scope ce fp) rfl rfl rfl hc i [] sL _ HL (fun _ _ => False) IL (stand IL nL) stL stop) fun r sM ⟨hr, IM⟩ => ?_
      subst hr
      have IX : Inv X pins σ HL sM := IC.call' (ch := fp) IM.os IM.base IM.hok IM.bare fun b hb => ⟨(fC b hb).1.2.2.2.1, (fC b hb).1.2.1, (fC b hb).1.2.2.2.2.1, (fC b hb).1.2.2.2.2.2⟩
      have nl : HL sC.heap.objs.size = none := by
        have z : HL ce.locals = none := IM.free
        rw [locals] at z
        exact z
      obtain ⟨m, hn, _⟩ := IM.loc
      have hn : sM.heap.Ns ce.locals m := hn
      rw [locals] at hn
      exact hRR D sC.heap.objs.size sM m HL IX qq hn (IC.fpOk (Nat.le_refl _) nl)
    · refine thnF (T.item (X.blk sC HC scope ce fp) rfl rfl rfl hc i [] sL _ HL (fun _ _ => False) IL (stand IL nL) stL go) fun r sM ⟨u, hr, hM⟩ => ?_
      subst hr
      refine thnF hM fun _ sN ⟨x, HN, IN, rN, yN, stN, nN⟩ => ?_
      have INp := IN.pinned (stand IN nN) (T.obj _ _ stN)
      refine thnF (pg.run _ sN _ HN x u _ INp rN (step x HN yN)) fun _ sO ⟨σO, HO_, IO_, hwO, qO⟩ => ?_
      refine thnF (pt.run _ sO σO HO_ _ IO_ qO) fun b sP ⟨HP, IP, qP⟩ => ?_
      have fin : ∀ {s' : Shared} {H' : Hp}, Inv (X.blk sC HC scope ce fp) ([] ++ pinsAt fp sN.heap) σO H' s' → Nx H' →
          ∃ m, m < n ∧ ∃ i H', Inv (X.blk sC HC scope ce fp) [] (wipe σ (own.map (·.2))) H' s' ∧ tn i s'.heap ∧ (∀ b ∈ fp, H' b = none) ∧ W i m H' := fun {s' H'} I' nx => by
        obtain ⟨m', hm, w'⟩ := hNx H' nx
        have kept : ∀ b ∈ fp, ∀ o, sN.heap.get? b = some o → s'.heap.get? b = some o ∧ H' b = none := fun b hb o e =>
          let z := I'.pin (b, o) (List.mem_append_right _ (List.mem_append_right _ (mem_pinsAt hb e)))
          ⟨z.1, z.2.1⟩
        refine ⟨m', hm, i + 1, H', (I'.unpinned (pins := [])).weak (by rw [← hwO, wipe_length]) (fun j v e => ?_), T.keep _ _ _ stN fun b hb o e => (kept b hb o e).1, fun b hb => ?_, w'⟩
        · rw [← hwO] at e
          exact (wipe_some e).1
        · exact (T.obj _ _ stN b hb).elim fun o z => (kept b hb o z.1).2
      cases b with
      | false =>
        simp only [Bool.false_eq_true, if_false] at qP ⊢
        exact fin IP qP
      | true =>
        simp only [if_true] at qP ⊢
        refine thnF (pe.run _ sP σO HP _ IP qP) fun v sQ ⟨yv, HQ, IQ, rQ, z, zs, ey, hDQ, hzQ, nx⟩ => ?_
        subst ey
        obtain ⟨tk, rfl⟩ : ∃ tk, v = Value.str z tk := rQ
        exact tsetO_add (X := X.blk sC HC scope ce fp) IQ hDQ hzQ fun sR IR => fin IR nx
  exact PpSet.codeAny_compStart_set loop (T.self X.A 0 _ _ _ stK loop)
theorem pe_scT {elt tg iter : Expr} {ifs : List Expr} {scope : Scope} {own : List (PySem.Str × Nat)} {pos : Pos} {wi : TI} {g : TG} {tt : TT} {te : TE} (hc : X.calm = true) (hN : X.N.Nodup) (hi : PI X tg iter wi)
    (ok : BlkOk X.N X.env.scope scope own)
    (hg : ∀ (s : Shared) (H : Hp) (C : Addr) (cl : List (PySem.Str × Addr)) (fp : List Addr), PG (X.blk s H scope (compEnvC scope cl C X.env) fp) tg g)
    (ht : ∀ (s : Shared) (H : Hp) (C : Addr) (cl : List (PySem.Str × Addr)) (fp : List Addr), PTs (X.blk s H scope (compEnvC scope cl C X.env) fp) ifs tt)
    (he : ∀ (s : Shared) (H : Hp) (C : Addr) (cl : List (PySem.Str × Addr)) (fp : List Addr), PE (X.blk s H scope (compEnvC scope cl C X.env) fp) elt te)
    (hs : ∀ x, foldedSetIterable iter X.env x = pure x := by intro _; rfl) : PE X (.SetComp elt [⟨tg, iter, ifs, 0⟩] scope pos) (tScT X.w wi g tt te (own.map (·.2))) := by
  refine ⟨fun pins s σ H Q I h => ?_⟩
  rw [PpSet.eval_SetComp]
  refine scT_core hc hN I hi ok hg ht he hs h fun D C s' m H' I' q hn f => ⟨m, hn, fun h'' sb => ?_⟩
  obtain ⟨f0, f1, f2, f3, f4, f5⟩ := f
  exact ⟨.ref D, H', I'.turned (t' := s'.toks) (fun b o hb e => (sb.2 b hb).trans e) f0 f1 f3 f4 f5, rfl, q⟩
end
/-- the texts of a list, each once, by first place -/
def once (zs : List Str) : List Str := zs.foldl addT []
theorem once_snoc (zs : List Str) (z : Str) : once (zs ++ [z]) = addT (once zs) z := by
  unfold once
  rw [List.foldl_append]
  rfl
theorem once_len (zs : List Str) : (once zs).length ≤ zs.length := by
  have h : ∀ (l acc : List Str), (l.foldl addT acc).length ≤ acc.length + l.length := by
    intro l
    induction l with
    | nil => intro acc; exact Nat.le_refl _
    | cons z l ih =>
      intro acc
      have e := ih (addT acc z)
      have f : (addT acc z).length ≤ acc.length + 1 := by
        unfold addT
        split
        · omega
        · simp
      show (l.foldl addT (addT acc z)).length ≤ _
      rw [List.length_cons]
      omega
  have := h zs []
  simpa [once] using this
theorem once_mem (zs : List Str) (y : Str) : y ∈ once zs ↔ y ∈ zs := by
  have h : ∀ (l acc : List Str), y ∈ l.foldl addT acc ↔ y ∈ acc ∨ y ∈ l := by
    intro l
    induction l with
    | nil => intro acc; simp
    | cons z l ih =>
      intro acc
      show y ∈ l.foldl addT (addT acc z) ↔ _
      rw [ih]
      unfold addT
      split
      · rename_i m
        simp only [List.mem_cons]
        constructor
        · rintro (a | a)
          · exact .inl a
          · exact .inr (.inr a)
        · rintro (a | a | a)
          · exact .inl a
          · exact .inl (a ▸ m)
          · exact .inr a
      · simp only [List.mem_append, List.mem_cons, List.not_mem_nil, or_false, or_assoc]
  simpa [once] using h zs []
theorem once_nodup (zs : List Str) : (once zs).Nodup := by
  have h : ∀ (l acc : List Str), acc.Nodup → (l.foldl addT acc).Nodup := by
    intro l
    induction l with
    | nil => intro acc h; exact h
    | cons z l ih =>
      intro acc h
      refine ih _ ?_
      unfold addT
      split
      · exact h
      · rename_i m
        exact nd_snoc h m
  exact h zs [] .nil
end Cs

set_option Elab.async false
set_option linter.all false
set_option maxRecDepth 100000
set_option maxHeartbeats 4000000
/-! Plain laws: texts in order, tables of words and integers, what is told of a table. -/
namespace Cs
open PySem L2 PyProof.Rows
/-! ### the order of texts -/
def SLt (a b : Str) : Prop := a.cps.toList < b.cps.toList
theorem slt_irrefl (a : Str) : ¬ SLt a a := List.lt_irrefl _
theorem slt_trans {a b c : Str} (h : SLt a b) (k : SLt b c) : SLt a c := List.lt_trans h k
theorem str_ext {a b : Str} (h : a.cps.toList = b.cps.toList) : a = b := by
  cases a
  cases b
  congr
  exact Array.toList_inj.mp h
theorem slt_total {a b : Str} (h : ¬ SLt b a) (n : a ≠ b) : SLt a b := by
  have h1 : a.cps.toList ≤ b.cps.toList := List.not_lt.mp h
  apply Classical.byContradiction
  intro q
  exact n (str_ext (List.le_antisymm h1 (List.not_lt.mp q)))
theorem slt_of_le_lt {a b c : Str} (h : ¬ SLt b a) (k : SLt b c) : SLt a c := List.lt_of_le_of_lt (List.not_lt.mp h) k
/-- ascending, none twice -/
def Asc (zs : List Str) : Prop := zs.Pairwise SLt
theorem rising_pw : ∀ (r : List Str) (p : Str), risingS p r = true → (p :: r).Pairwise (fun a b => ¬ SLt b a)
  | [], p, _ => List.pairwise_singleton _ _
  | x :: r, p, h => by
    have h : (!PySem.Spec.ltCps x.cps.toList p.cps.toList && risingS x r) = true := h
    rw [Bool.and_eq_true, ltCps_eq] at h
    have ih := rising_pw r x h.2
    have h1 : ¬ SLt x p := by
      have := h.1
      intro q
      rw [decide_eq_true (show x.cps.toList < p.cps.toList from q)] at this
      cases this
    refine List.pairwise_cons.mpr ⟨fun y hy => ?_, ih⟩
    rcases List.mem_cons.mp hy with e | e
    · rw [e]
      exact h1
    · have h2 := (List.pairwise_cons.mp ih).1 y e
      exact fun q => h1 (slt_of_le_lt h2 q)
theorem sorted_pw : ∀ {zs : List Str}, sortedS zs = true → zs.Pairwise (fun a b => ¬ SLt b a)
  | [], _ => .nil
  | x :: r, h => rising_pw r x h
theorem asc_of_sorted {zs : List Str} (h : sortedS zs = true) (n : zs.Nodup) : Asc zs := by
  have a := sorted_pw h
  have b : zs.Pairwise (fun a b => ¬ SLt b a ∧ a ≠ b) := a.and n
  exact b.imp fun h => slt_total h.1 h.2
theorem Asc.nodup {zs : List Str} (h : Asc zs) : zs.Nodup := h.imp fun {a b} (q : SLt a b) (e : a = b) => slt_irrefl a (by rw [← e] at q; exact q)
/-- ascending lists with the same members are one -/
theorem asc_eq : ∀ {xs ys : List Str}, Asc xs → Asc ys → (∀ z, z ∈ xs ↔ z ∈ ys) → xs = ys
  | [], [], _, _, _ => rfl
  | [], y :: ys, _, _, h => absurd ((h y).mpr List.mem_cons_self) (by simp)
  | x :: xs, [], _, _, h => absurd ((h x).mp List.mem_cons_self) (by simp)
  | x :: xs, y :: ys, a, b, h => by
    obtain ⟨a1, a2⟩ := List.pairwise_cons.mp a
    obtain ⟨b1, b2⟩ := List.pairwise_cons.mp b
    have e : x = y := by
      rcases List.mem_cons.mp ((h x).mp List.mem_cons_self) with e | e
      · exact e
      · rcases List.mem_cons.mp ((h y).mpr List.mem_cons_self) with f | f
        · exact f.symm
        · exact absurd (slt_trans (a1 y f) (b1 x e)) (slt_irrefl x)
    subst e
    rw [asc_eq a2 b2 fun z => ?_]
    constructor
    · intro m
      rcases List.mem_cons.mp ((h z).mp (List.mem_cons_of_mem _ m)) with e | e
      · exact absurd (e ▸ a1 z m) (slt_irrefl _)
      · exact e
    · intro m
      rcases List.mem_cons.mp ((h z).mpr (List.mem_cons_of_mem _ m)) with e | e
      · exact absurd (e ▸ b1 z m) (slt_irrefl _)
      · exact e
/-! ### tables -/
abbrev Tab := List (Str × Int)
def keys (t : Tab) : List Str := t.map (·.1)
def look (t : Tab) (z : Str) : Option Int := (t.find? fun q => decide (q.1 = z)).map (·.2)
def val (t : Tab) (z : Str) : Int := (look t z).getD 0
def put (t : Tab) (z : Str) (n : Int) : Tab := if (t.any fun q => decide (q.1 = z)) = true then t.map (fun q => if q.1 = z then (q.1, n) else q) else t ++ [(z, n)]
def drop (t : Tab) (z : Str) : Tab := t.filter fun q => decide (q.1 ≠ z)
theorem look_none : ∀ {t : Tab} {z : Str}, z ∉ keys t → look t z = none
  | [], _, _ => rfl
  | q :: t, z, h => by
    have h1 : q.1 ≠ z := fun e => h (by rw [← e]; exact List.mem_cons_self)
    have h2 : z ∉ keys t := fun m => h (List.mem_cons_of_mem _ m)
    have ih := look_none h2
    unfold look at ih ⊢
    rw [List.find?_cons, decide_eq_false h1]
    exact ih
theorem look_some : ∀ {t : Tab} {z : Str}, z ∈ keys t → ∃ n, look t z = some n ∧ (z, n) ∈ t
  | [], _, h => by simp [keys] at h
  | q :: t, z, h => by
    by_cases e : q.1 = z
    · refine ⟨q.2, ?_, ?_⟩
      · unfold look
        rw [List.find?_cons, decide_eq_true e]
        rfl
      · rw [← e]
        exact List.mem_cons_self
    · have h2 : z ∈ keys t := (List.mem_cons.mp h).resolve_left fun q => e q.symm
      obtain ⟨n, a, b⟩ := look_some h2
      refine ⟨n, ?_, List.mem_cons_of_mem _ b⟩
      unfold look at a ⊢
      rw [List.find?_cons, decide_eq_false e]
      exact a
theorem look_mem {t : Tab} (nd : (keys t).Nodup) {z : Str} {n : Int} (h : (z, n) ∈ t) : look t z = some n := by
  induction t with
  | nil => cases h
  | cons q t ih =>
    obtain ⟨n1, n2⟩ := List.nodup_cons.mp (show (q.1 :: keys t).Nodup from nd)
    rcases List.mem_cons.mp h with e | e
    · subst e
      unfold look
      rw [List.find?_cons, decide_eq_true rfl]
      rfl
    · have h1 : q.1 ≠ z := fun f => n1 (f ▸ List.mem_map.mpr ⟨_, e, rfl⟩)
      have := ih n2 e
      unfold look at this ⊢
      rw [List.find?_cons, decide_eq_false h1]
      exact this
theorem any_keys (t : Tab) (z : Str) : (t.any fun q => decide (q.1 = z)) = decide (z ∈ keys t) := by
  rw [Bool.eq_iff_iff, List.any_eq_true, decide_eq_true_eq]
  constructor
  · rintro ⟨q, m, e⟩
    exact List.mem_map.mpr ⟨q, m, of_decide_eq_true e⟩
  · intro m
    obtain ⟨q, m, e⟩ := List.mem_map.mp m
    exact ⟨q, m, decide_eq_true e⟩
theorem keys_put (t : Tab) (z : Str) (n : Int) : keys (put t z n) = if z ∈ keys t then keys t else keys t ++ [z] := by
  unfold put
  rw [any_keys]
  by_cases h : z ∈ keys t
  · rw [if_pos (decide_eq_true h), if_pos h]
    unfold keys
    rw [List.map_map]
    apply List.map_congr_left
    intro q _
    simp only [Function.comp]
    split <;> rfl
  · rw [if_neg (by simpa using h), if_neg h]
    unfold keys
    rw [List.map_append]
    rfl
theorem mem_keys_put {t : Tab} {z y : Str} {n : Int} : y ∈ keys (put t z n) ↔ y ∈ keys t ∨ y = z := by
  rw [keys_put]
  split
  · rename_i h
    exact ⟨.inl, fun q => q.elim id fun e => e ▸ h⟩
  · rw [List.mem_append, List.mem_singleton]
theorem nd_put {t : Tab} {z : Str} {n : Int} (h : (keys t).Nodup) : (keys (put t z n)).Nodup := by
  rw [keys_put]
  split
  · exact h
  · rename_i m
    exact nd_snoc h m
theorem mem_put {t : Tab} {z y : Str} {n m : Int} (h : (y, m) ∈ put t z n) : (y = z ∧ m = n) ∨ (y ≠ z ∧ (y, m) ∈ t) := by
  unfold put at h
  rw [any_keys] at h
  by_cases k : z ∈ keys t
  · rw [if_pos (decide_eq_true k)] at h
    obtain ⟨q, hq, e⟩ := List.mem_map.mp h
    by_cases c : q.1 = z
    · rw [if_pos c] at e
      left
      exact ⟨by rw [← c]; exact (congrArg Prod.fst e).symm, (congrArg Prod.snd e).symm⟩
    · rw [if_neg c] at e
      right
      subst e
      exact ⟨c, hq⟩
  · rw [if_neg (by simpa using k)] at h
    rcases List.mem_append.mp h with a | a
    · right
      exact ⟨fun e => k (e ▸ List.mem_map.mpr ⟨_, a, rfl⟩), a⟩
    · left
      have := List.mem_singleton.mp a
      exact ⟨congrArg Prod.fst this, congrArg Prod.snd this⟩
theorem look_put {t : Tab} {z y : Str} {n : Int} (h : (keys t).Nodup) : look (put t z n) y = if y = z then some n else look t y := by
  by_cases k : y ∈ keys (put t z n)
  · obtain ⟨m, a, b⟩ := look_some k
    rw [a]
    rcases mem_put b with ⟨e, f⟩ | ⟨e, f⟩
    · rw [if_pos e, f]
    · rw [if_neg e, look_mem h f]
  · rw [look_none k]
    have k2 : ¬ (y ∈ keys t ∨ y = z) := fun q => k (mem_keys_put.mpr q)
    rw [if_neg fun e => k2 (.inr e), look_none fun e => k2 (.inl e)]
theorem val_put {t : Tab} {z y : Str} {n : Int} (h : (keys t).Nodup) : val (put t z n) y = if y = z then n else val t y := by
  unfold val
  rw [look_put h]
  split <;> rfl
theorem keys_drop (t : Tab) (z : Str) : keys (drop t z) = (keys t).filter fun y => decide (y ≠ z) := by
  unfold keys drop
  rw [List.filter_map]
  rfl
theorem nd_drop {t : Tab} {z : Str} (h : (keys t).Nodup) : (keys (drop t z)).Nodup := by
  rw [keys_drop]
  exact h.filter _
theorem look_drop {t : Tab} {z y : Str} (h : (keys t).Nodup) : look (drop t z) y = if y = z then none else look t y := by
  by_cases k : y ∈ keys (drop t z)
  · obtain ⟨m, a, b⟩ := look_some k
    have c := List.mem_filter.mp b
    have d : y ≠ z := of_decide_eq_true c.2
    rw [a, if_neg d, look_mem h c.1]
  · rw [look_none k]
    by_cases e : y = z
    · rw [if_pos e]
    · rw [if_neg e, look_none]
      intro m
      apply k
      rw [keys_drop]
      exact List.mem_filter.mpr ⟨m, decide_eq_true e⟩
theorem val_drop {t : Tab} {z y : Str} (h : (keys t).Nodup) : val (drop t z) y = if y = z then 0 else val t y := by
  unfold val
  rw [look_drop h]
  split <;> rfl
theorem len_put (t : Tab) (z : Str) (n : Int) : (put t z n).length ≤ t.length + 1 := by
  unfold put
  split
  · rw [List.length_map]
    omega
  · rw [List.length_append]
    exact Nat.le_refl _
/-! ### what is told of a table: the words ascending whose integer is not 0 -/
/-- ws holds the table's words, ascending -/
def toldBy (t : Tab) (ws : List Str) : Tab := (ws.filter fun z => decide (val t z ≠ 0)).map fun z => (z, val t z)
/-- l is what is told of a table with these values -/
structure Told (f : Str → Int) (l : Tab) : Prop where
  asc : Asc (keys l)
  mem : ∀ z n, (z, n) ∈ l ↔ n = f z ∧ n ≠ 0
theorem Told.keys_iff {f : Str → Int} {l : Tab} (h : Told f l) (z : Str) : z ∈ keys l ↔ f z ≠ 0 := by
  constructor
  · intro m
    obtain ⟨⟨y, n⟩, hm, e⟩ := List.mem_map.mp m
    have e : y = z := e
    subst e
    obtain ⟨a, b⟩ := (h.mem _ _).mp hm
    rw [← a]
    exact b
  · intro q
    exact List.mem_map.mpr ⟨(z, f z), (h.mem _ _).mpr ⟨rfl, q⟩, rfl⟩
theorem Told.form {f : Str → Int} {l : Tab} (h : Told f l) : l = (keys l).map fun z => (z, f z) := by
  unfold keys
  rw [List.map_map]
  conv => lhs; rw [← List.map_id l]
  apply List.map_congr_left
  intro q m
  have := ((h.mem q.1 q.2).mp m).1
  show q = (q.1, f q.1)
  rw [← this]
theorem told_eq {f g : Str → Int} {l m : Tab} (a : Told f l) (b : Told g m) (h : ∀ z, f z = g z) : l = m := by
  have e : f = g := funext h
  subst e
  have k : keys l = keys m := asc_eq a.asc b.asc fun z => by rw [a.keys_iff, b.keys_iff]
  rw [a.form, b.form, k]
theorem told_of {t : Tab} {ws : List Str} (nd : (keys t).Nodup) (ha : Asc ws) (hm : ∀ z, z ∈ ws ↔ z ∈ keys t) : Told (val t) (toldBy t ws) := by
  have ek : keys (toldBy t ws) = ws.filter fun z => decide (val t z ≠ 0) := by
    unfold keys toldBy
    rw [List.map_map]
    exact List.map_id _
  refine ⟨?_, fun z n => ?_⟩
  · rw [ek]
    exact List.Pairwise.filter _ ha
  · unfold toldBy
    rw [List.mem_map]
    constructor
    · rintro ⟨y, m, e⟩
      have e1 : y = z := congrArg Prod.fst e
      have e2 : val t y = n := congrArg Prod.snd e
      subst e1
      subst e2
      exact ⟨rfl, of_decide_eq_true (List.mem_filter.mp m).2⟩
    · rintro ⟨rfl, q⟩
      refine ⟨z, List.mem_filter.mpr ⟨?_, decide_eq_true q⟩, rfl⟩
      rw [hm]
      apply Classical.byContradiction
      intro k
      exact q (by unfold val; rw [look_none k]; rfl)
/-! ### a table as a dict's pairs -/
def tv (t : Tab) : List (Key × V) := t.map fun q => (Sum.inr q.1, V.int q.2)
theorem tv_len (t : Tab) : (tv t).length = t.length := List.length_map _
theorem tv_val (t : Tab) (z : Str) : valV (tv t) (Sum.inr z) = (look t z).map V.int := by
  unfold valV tv look
  induction t with
  | nil => rfl
  | cons q t ih =>
    rw [List.map_cons, List.find?_cons, List.find?_cons]
    by_cases e : q.1 = z
    · rw [decide_eq_true e, decide_eq_true (show (Sum.inr q.1 : Key) = Sum.inr z by rw [e])]
      rfl
    · rw [decide_eq_false e, decide_eq_false (show ¬ (Sum.inr q.1 : Key) = Sum.inr z from fun f => e (Sum.inr.inj f))]
      exact ih
theorem tv_any (t : Tab) (z : Str) : ((tv t).any fun kv => decide (kv.1 = Sum.inr z)) = t.any fun q => decide (q.1 = z) := by
  unfold tv
  rw [List.any_map]
  congr 1
  funext q
  exact key_rr q.1 z
theorem tv_put (t : Tab) (z : Str) (n : Int) : putK (tv t) (Sum.inr z) (V.int n) = tv (put t z n) := by
  unfold putK put
  rw [tv_any]
  split
  · unfold tv
    rw [List.map_map, List.map_map]
    apply List.map_congr_left
    intro q _
    simp only [Function.comp]
    by_cases e : q.1 = z
    · rw [if_pos e, if_pos (show (Sum.inr q.1 : Key) = Sum.inr z by rw [e])]
    · rw [if_neg e, if_neg (show ¬ (Sum.inr q.1 : Key) = Sum.inr z from fun f => e (Sum.inr.inj f))]
  · unfold tv
    rw [List.map_append]
    rfl
theorem tv_drop (t : Tab) (z : Str) : dropK (tv t) (Sum.inr z) = tv (drop t z) := by
  unfold dropK drop tv
  rw [List.filter_map]
  congr 1
  apply List.filter_congr
  intro q _
  simp only [Function.comp]
  by_cases e : q.1 = z
  · simp [e]
  · have : ¬ (Sum.inr q.1 : Key) = Sum.inr z := fun f => e (Sum.inr.inj f)
    simp [e, this]
/-- pairs added up word by word -/
def addUp (ps : List (Str × Int)) : Tab := ps.foldl (fun t q => put t q.1 (val t q.1 + q.2)) []
/-- the integers of a word in pairs -/
def sumOf (ps : List (Str × Int)) (z : Str) : Int := ((ps.filter fun q => decide (q.1 = z)).map (·.2)).sum
theorem addUp_snoc (ps : List (Str × Int)) (q : Str × Int) : addUp (ps ++ [q]) = put (addUp ps) q.1 (val (addUp ps) q.1 + q.2) := by
  unfold addUp
  rw [List.foldl_append]
  rfl
theorem snoc_rec {α : Type} {C : List α → Prop} (h0 : C []) (h1 : ∀ l a, C l → C (l ++ [a])) : ∀ l, C l := by
  intro l
  have : ∀ n (l : List α), l.length = n → C l := by
    intro n
    induction n with
    | zero => intro l hl; rw [List.length_eq_zero_iff.mp hl]; exact h0
    | succ n ih =>
      intro l hl
      have hne : l ≠ [] := by intro e; rw [e] at hl; cases hl
      rw [← List.dropLast_concat_getLast hne]
      exact h1 _ _ (ih _ (by rw [List.length_dropLast, hl]; rfl))
  exact this _ l rfl
theorem addUp_nd : ∀ ps, (keys (addUp ps)).Nodup := snoc_rec List.nodup_nil fun l a h => by
  rw [addUp_snoc]
  exact nd_put h
theorem addUp_val (z : Str) : ∀ ps, val (addUp ps) z = sumOf ps z := snoc_rec rfl fun l a h => by
  rw [addUp_snoc, val_put (addUp_nd l)]
  unfold sumOf at h ⊢
  rw [List.filter_append, List.map_append, List.sum_append]
  by_cases e : a.1 = z
  · rw [if_pos e.symm]
    subst e
    rw [h]
    simp
  · rw [if_neg fun q => e q.symm, h]
    simp [e]
theorem addUp_len : ∀ ps, (addUp ps).length ≤ ps.length := snoc_rec (Nat.le_refl _) fun l a h => by
  rw [addUp_snoc, List.length_append]
  exact Nat.le_trans (len_put _ _ _) (Nat.succ_le_succ h)
/-- without zeros -/
def noZero (t : Tab) : Tab := t.filter fun q => decide (q.2 ≠ 0)
theorem noZero_nd {t : Tab} (h : (keys t).Nodup) : (keys (noZero t)).Nodup := by
  unfold keys noZero
  exact List.Nodup.sublist ((List.filter_sublist).map _) h
theorem noZero_mem {t : Tab} {q : Str × Int} : q ∈ noZero t ↔ q ∈ t ∧ q.2 ≠ 0 := by
  unfold noZero
  rw [List.mem_filter, decide_eq_true_eq]
theorem noZero_val {t : Tab} (h : (keys t).Nodup) (z : Str) : val (noZero t) z = val t z := by
  unfold val
  by_cases k : z ∈ keys (noZero t)
  · obtain ⟨n, a, b⟩ := look_some k
    rw [a, look_mem h (noZero_mem.mp b).1]
  · rw [look_none k]
    by_cases m : z ∈ keys t
    · obtain ⟨n, a, b⟩ := look_some m
      rw [a]
      by_cases e : n = 0
      · rw [e]
        rfl
      · exact absurd (List.mem_map.mpr ⟨(z, n), noZero_mem.mpr ⟨b, e⟩, rfl⟩) k
    · rw [look_none m]
/-- a table as Counts hold it -/
structure Held (t : Tab) : Prop where
  nd : (keys t).Nodup
  nz : ∀ q ∈ t, q.2 ≠ 0
theorem Held.of {t : Tab} (h : (keys t).Nodup) : Held (noZero t) := ⟨noZero_nd h, fun q m => (noZero_mem.mp m).2⟩
theorem Held.keys_iff {t : Tab} (h : Held t) (z : Str) : z ∈ keys t ↔ val t z ≠ 0 := by
  unfold val
  constructor
  · intro m
    obtain ⟨n, a, b⟩ := look_some m
    rw [a]
    exact h.nz _ b
  · intro q
    apply Classical.byContradiction
    intro m
    rw [look_none m] at q
    exact q rfl
/-- the pairs of held counts, by their words ascending -/
theorem Held.told {t : Tab} (h : Held t) {ws : List Str} (ha : Asc ws) (hm : ∀ z, z ∈ ws ↔ z ∈ keys t) : Told (val t) (ws.map fun z => (z, val t z)) := by
  have := told_of h.nd ha hm
  unfold toldBy at this
  rw [List.filter_eq_self.mpr] at this
  · exact this
  · intro z m
    exact decide_eq_true ((h.keys_iff z).mp ((hm z).mp m))
end Cs

set_option Elab.async false
set_option linter.all false
set_option maxRecDepth 100000
set_option maxHeartbeats 4000000
/-! What an own class's special methods do: len(o), o[i], o[i] = v; classes called with a starred list. -/
namespace Cs
open PySem PySem.Spec PyProof.Rows L2
/-- a special method of the class at C -/
structure Spc (K : PySem.W.Frag) (C : Addr) (m : Str) (f : Addr) : Prop where
  at_ : PySem.W.findIn K (.ref C) m = some (some (.ref f))
  fn : PySem.W.isFn K (.ref f) = true
section
variable {X : Cx} {CX : CXT} {k i : Nat} {f C g : Addr} {fd : FuncData} {ps : List Str} {sp : Sp} {dvs : List V} {ds : List Value} {E : XK} {x m : Str} {e o : Expr} {es : List Expr} {te ta : TE} {t : TA} {p sp_ pos apos : Pos}
/-- a def run one level down -/
theorem run_fn1 {pins : List (Addr × Obj)} {σ : L2.St} {H : Hp} {s : Shared} {Q : VK} {us : List Value} {vs : List V} (F : FnOk X.prog X.w X.K X.mg X.base CX k f fd ps sp) (hr : Room (k + 1) X.A) (hb : Binds X.K fd ps []) (hx : Passes CX X E)
    (I : Inv X pins σ H s) (r : Vals vs us) (h : sp vs H Q E) : wpAny (model X.prog X.w) X.A.in1 (call (.ref f) us) (EP X pins σ Q) X.xe s := by
  have hl : us.length = ps.length := by rw [← r.length]; exact F.len _ _ _ _ h
  have hb' := hb s us I.kIn (by rw [List.append_nil]; exact hl)
  rw [List.append_nil] at hb'
  refine wpAny_call (codeAny_mono (F.run X.A.in1 X.stack s H ⟨us, []⟩ us vs Q E hr.in1 I.env0.in1 hb' r h) fun r s' hq => ?_)
  cases r with
  | error e => exact hx pins σ H s e s' I hq
  | ok fl =>
    cases fl with
    | ret u => exact I.after hq
    | next => exact False.elim hq
    | brk => exact False.elim hq
    | cont => exact False.elim hq
theorem ins_inst {pins : List (Addr × Obj)} {σ : L2.St} {H : Hp} {s : Shared} {a dx : Addr} {fs : List (Str × V)} (I : Inv X pins σ H s) (h : H a = some (.ins C dx fs)) : ∃ ox od, PySem.W.InstAt s.heap a ox C od ∧ ox.data = .plain := by
  obtain ⟨mA, O, _⟩ := ins_get I.hok h
  obtain ⟨od, J, _⟩ := O.look
  exact ⟨_, _, J, rfl⟩
/-- len(o) by an own __len__ -/
def rLenO (C : Addr) (sp : Sp) (E : XK) : List V → Hp → VK → Prop := fun xs H Q => ∃ a dx fs, xs = [.ref a] ∧ H a = some (.ins C dx fs) ∧ sp [.ref a] H (fun v H2 => ∃ n : Int, v = .int n ∧ (0 ≤ n ∧ n < 2 ^ 63) ∧ Q (.int n) H2) E
theorem call_lenO (c : Spc X.K C "__len__" f) (F : FnOk X.prog X.w X.K X.mg X.base CX k f fd ps sp) (hr : Room (k + 1) X.A) (hb : Binds X.K fd ps []) (hx : Passes CX X E) : CallR X (.builtin "len") (rLenO C sp E) := by
  intro pins s σ H xs us Q I r h
  obtain ⟨a, dx, fs, rfl, ha, q⟩ := h
  rw [Vals.ref1 r]
  obtain ⟨ox, od, J, _⟩ := ins_inst I ha
  obtain ⟨m, Fr⟩ := I.fr
  refine PySem.W.len_K Fr I.ok.mod.kin J c.at_ c.fn (wpAny_mono (run_fn1 (us := [.ref a]) (vs := [.ref a]) F hr hb hx I (.cons rfl .nil) q) (fun v s' z => ?_) fun _ _ z => z)
  obtain ⟨v0, H2, I2, rv, n, e, hn, q2⟩ := z
  subst e
  obtain ⟨tk, rfl⟩ := rv
  exact ⟨hn, .int n, H2, I2.tok _, ⟨_, rfl⟩, q2⟩
/-- o[i] = v by an own __setitem__ -/
def rSetO (C : Addr) (sp : Sp) (E : XK) : V → V → V → Hp → (Hp → Prop) → Prop := fun o i v H Q => ∃ a dx fs, o = .ref a ∧ H a = some (.ins C dx fs) ∧ sp [.ref a, i, v] H (fun _ H2 => Q H2) E
theorem set_own (c : Spc X.K C "__setitem__" f) (hq : PySem.W.noSeq X.K C = true) (F : FnOk X.prog X.w X.K X.mg X.base CX k f fd ps sp) (hr : Room k X.A) (hb : Binds X.K fd ps []) (hx : Passes CX X E) : PSet X (rSetO C sp E) := by
  intro pins s σ H o i v ov iv u Q I ro ri rv h
  obtain ⟨a, dx, fs, rfl, ha, q⟩ := h
  cases ro
  obtain ⟨ox, od, J, _⟩ := ins_inst I ha
  obtain ⟨m, Fr⟩ := I.fr
  refine PySem.W.ksp_setItem Fr I.ok.mod.kin J hq c.at_ c.fn ?_
  refine wpAny_mono (run_fn (us := [.ref a, iv, u]) (vs := [.ref a, i, v]) (dvs := []) F hr hb .nil hx I (.cons rfl (.cons ri (.cons rv .nil))) q) (fun v s' z => ?_) fun _ _ z => z
  obtain ⟨v0, H2, I2, _, q2⟩ := z
  exact ⟨H2, I2, q2⟩
/-- C(*y), C a class of the module -/
def tMkS (K : PySem.W.Frag) (C : Addr) (sp : Sp) (E : XK) (te : TE) : TE := fun σ H Q => te σ H fun y H1 => ∃ a xs, y = V.ref a ∧ (SqT K H1 a xs ∨ SqL K H1 a xs) ∧ ∀ x dx, H1 x = none → H1 dx = none → dx ≠ x →
  sp (V.ref x :: xs) (upd (upd H1 dx (.own x)) x (.ins C dx [])) (fun v H2 => v = .non ∧ Q (.ref x) H2) E
theorem pe_mkS (M : Mk X.K C f) (F : FnR X.prog X.w X.K X.mg X.base CX k f sp) (hr : Room (k + 1) X.A) (hg : Gl X x) (hm : X.mg x = some (.ref C)) (hx : Passes CX X E) (he : PE X e te) (hd : (x == ("__debug__" : Str)) = false := by decide)
    (hst : starEach [.Starred e sp_] X.env = [(true, eval e X.env)] := by rfl) : PE X (.Call (.Name x p) [.Starred e sp_] [] pos) (tMkS X.K C sp E te) := by
  refine ⟨fun pins s σ H Q I h => ?_⟩
  refine wpAny_Call_Name_kw (ld_glob I hg hm ?_ hd)
  refine PySem.W.callWith_S (h₀ := X.base) I.ok.mod.kin M.kp (thn (he.run pins s σ H _ I h) fun v s1 ⟨y, H1, I1, ry, a, xs, ey, hxs, q⟩ => ?_) hst
  subst ey
  obtain rfl : v = Value.ref a := ry
  exact StX.star_any I1 hxs fun us s2 I2 rv => ⟨I2.kIn, StX.run_makeR M F hr hx I2 rv q⟩
/-- c(*y), c a local name that holds the class -/
theorem pe_mkSL (M : Mk X.K C f) (F : FnR X.prog X.w X.K X.mg X.base CX k f sp) (hr : Room (k + 1) X.A) (hN : X.N[i]? = some x) (hv : Vis X.env.scope x) (hx : Passes CX X E) (he : PE X e te) (hdb : (x == ("__debug__" : Str)) = false := by decide)
    (hcd : (x == ("__classdict__" : Str)) = false := by decide) (hst : starEach [.Starred e sp_] X.env = [(true, eval e X.env)] := by rfl) :
    PE X (.Call (.Name x p) [.Starred e sp_] [] pos) (fun σ H Q => σ[i]? = some (some (.ref C)) ∧ tMkS X.K C sp E te σ H Q) := by
  refine ⟨fun pins s σ H Q I h => ?_⟩
  obtain ⟨hs, h⟩ := h
  refine wpAny_Call_Name_kw (thn ((pe_var (pos := p) hN hv hdb hcd).run pins s σ H (fun v H1 => v = .ref C ∧ H1 = H) I ⟨.ref C, hs, rfl, rfl⟩) fun u s0 ⟨v, H0, I0, r0, q0⟩ => ?_)
  obtain ⟨rfl, rfl⟩ := q0
  cases r0
  refine PySem.W.callWith_S (h₀ := X.base) I.ok.mod.kin M.kp (thn (he.run pins s0 σ _ _ I0 h) fun v s1 ⟨y, H1, I1, ry, a, xs, ey, hxs, q⟩ => ?_) hst
  subst ey
  obtain rfl : v = Value.ref a := ry
  exact StX.star_any I1 hxs fun us s2 I2 rv => ⟨I2.kIn, StX.run_makeR M F hr hx I2 rv q⟩
/-- C(), by a positional promise -/
theorem pe_mkR0 (M : Mk X.K C f) (F : FnR X.prog X.w X.K X.mg X.base CX k f sp) (hr : Room (k + 1) X.A) (hg : Gl X x) (hm : X.mg x = some (.ref C)) (hx : Passes CX X E) (hdb : (x == ("__debug__" : Str)) = false := by decide) :
    PE X (.Call (.Name x p) [] [] pos) (StX.tMakeR C sp E tNil) := by
  refine ⟨fun pins s σ H Q I h => ?_⟩
  refine wpAny_Call_Name_kw (ld_glob I hg hm ?_ hdb)
  exact PySem.W.callWith_K0 I.kIn M.kp (StX.run_makeR (us := []) M F hr hx I .nil h)
/-- o.m() by a positional promise -/
theorem pe_methR0 {pl : Sem Bool} (he : PE X o ta) (c : Cls X.K C) (hm : Meth X.K C m f) (F : FnR X.prog X.w X.K X.mg X.base CX k f sp) (hr : Room k X.A) (hx : Passes CX X E)
    (ht : eval (.Call (.Attribute o m apos) [] [] pos) X.env = (do
      let ov ← eval o X.env
      standAt apos.atName
      let (f, first) ← holding [ov] (getMethod ov m pl)
      callWith pos f first (backTo pos (starEach [] X.env)) (backToKw pos (keywordEach [] X.env))) := by rfl) :
    PE X (.Call (.Attribute o m apos) [] [] pos) (tMethR C m sp E ta tNil) := by
  refine ⟨fun pins s σ H Q I h => ?_⟩
  refine PySem.W.methodCall_KW (pl := pl) (thn (he.run pins s σ H _ I h) fun u s1 ⟨x, H1, I1, rx, a, dx, fs, ex, ea, l, q⟩ => ?_) ht
  subst ex
  obtain rfl : u = Value.ref a := rx
  refine getmeth_ok I1 ea c hm l ?_
  exact PySem.W.callWith_K0 (first := [.ref a]) I1.kIn hm.kp (wpAny_call (run_fnR (us := [.ref a]) (vs := [.ref a]) F hr hx I1 (.cons rfl .nil) q))
end
end Cs

set_option Elab.async false
set_option linter.all false
set_option maxRecDepth 100000
set_option maxHeartbeats 4000000
/-! Operators of an own class: + - * & | ^ and the like, unary minus, abs, comparisons, op=, o[i]. -/
namespace Cs
open PySem PySem.Spec PyProof.Rows L2
/-- no value of the layer is NotImplemented -/
theorem back_of {X : Cx} {pins : List (Addr × Obj)} {σ : L2.St} {Q : VK} {u : Value} {s : Shared} (h : EP X pins σ Q u s) : PySem.W.CmpBack (EP X pins σ Q) u s := by
  obtain ⟨v, H', I, r, q⟩ := id h
  cases u <;> first | exact h | (cases v <;> first | (obtain ⟨_, z⟩ := r; cases z; done) | (exact absurd r (by intro z; cases z)))
section
variable {X : Cx} {CX : CXT} {k i : Nat} {f C g : Addr} {fd : FuncData} {ps : List Str} {sp : Sp} {E : XK} {a b : Expr} {ta tb : TE} {pos : Pos} {op : Operator}
/-- the class comes first in its own order -/
structure OpC (K : PySem.W.Frag) (C : Addr) (m : Str) (f : Addr) : Prop where
  sf : PySem.W.selfFirst K C = true
  at_ : PySem.W.findIn K (.ref C) m = some (some (.ref f))
  fn : PySem.W.isFn K (.ref f) = true
/-- x op y, both of the class -/
def rBinO (C : Addr) (sp : Sp) (E : XK) : R2 := fun x y H Q => ∃ p q dp dq fp fq, x = .ref p ∧ y = .ref q ∧ H p = some (.ins C dp fp) ∧ H q = some (.ins C dq fq) ∧ sp [.ref p, .ref q] H Q E
theorem op_own (c : OpC X.K C (PySem.dunder op.info.2) f) (F : FnOk X.prog X.w X.K X.mg X.base CX k f fd ps sp) (hr : Room k X.A) (hb : Binds X.K fd ps []) (hx : Passes CX X E) : OpR X (binaryOp op) (rBinO C sp E) := by
  intro pins s σ H x y v u Q I rx ry h
  obtain ⟨p, q, dp, dq, fp, fq, rfl, rfl, hp, hq, k⟩ := h
  cases rx
  cases ry
  obtain ⟨ox, od, J, _⟩ := ins_inst I hp
  obtain ⟨oy, oe, J2, _⟩ := ins_inst I hq
  obtain ⟨m, Fr⟩ := I.fr
  refine PySem.W.binop_K Fr I.ok.mod.kin J J2.type c.sf c.at_ c.fn ?_
  exact wpAny_mono (run_fn (us := [.ref p, .ref q]) (vs := [.ref p, .ref q]) (dvs := []) F hr hb .nil hx I (.cons rfl (.cons rfl .nil)) k) (fun v s' z => back_of z) fun _ _ z => z
/-- x op n, x of the class, n an int -/
def rBinI (C : Addr) (sp : Sp) (E : XK) : R2 := fun x y H Q => ∃ p dp fp n, x = .ref p ∧ y = .int n ∧ H p = some (.ins C dp fp) ∧ sp [.ref p, .int n] H Q E
structure OpT (K : PySem.W.Frag) (C : Addr) (nm : String) (f g : Addr) : Prop where
  sf : PySem.W.selfFirst K C = true
  at_ : PySem.W.findIn K (.ref C) (PySem.dunder nm) = some (some (.ref f))
  fn : PySem.W.isFn K (.ref f) = true
  rat : PySem.W.findIn K (.ref C) (dunderR nm) = some (some (.ref g))
  rfn : PySem.W.isFn K (.ref g) = true
  sub : PySem.W.subIn K (.type "int") (.ref C) = some false
  sub2 : PySem.W.subIn K (.ref C) (.type "int") = some false
theorem op_ownI {fo ro : Option Value} (c : OpT X.K C op.info.2 f g) (h1 : PySem.W.findIn X.K (.type "int") (PySem.dunder op.info.2) = some fo) (h2 : PySem.W.findIn X.K (.type "int") (dunderR op.info.2) = some ro)
    (F : FnOk X.prog X.w X.K X.mg X.base CX k f fd ps sp) (hr : Room k X.A) (hb : Binds X.K fd ps []) (hx : Passes CX X E) : OpR X (binaryOp op) (rBinI C sp E) := by
  intro pins s σ H x y v u Q I rx ry h
  obtain ⟨p, dp, fp, n, rfl, rfl, hp, k⟩ := h
  cases rx
  obtain ⟨t, rfl⟩ := ry
  obtain ⟨ox, od, J, _⟩ := ins_inst I hp
  obtain ⟨m, Fr⟩ := I.fr
  refine PySem.W.ksp_binT (T := "int") (b := .int n t) Fr I.ok.mod.kin J rfl c.sf c.at_ c.fn c.rat (.inr ⟨g, rfl⟩) h1 h2 c.sub ?_
  exact wpAny_mono (run_fn (us := [.ref p, .int n t]) (vs := [.ref p, .int n]) (dvs := []) F hr hb .nil hx I (.cons rfl (.cons ⟨t, rfl⟩ .nil)) k) (fun v s' z => back_of z) fun _ _ z => z
/-- int.__mul__ of an object that is no int -/
theorem mul_other {prog : Program} {w : World} {A : Around} {E : Value → Shared → Prop} {s : Shared} {x : Addr} {o : Obj} {n : Int} {t : Tok} {Q : Option Value → Shared → Prop} (ho : s.heap.get? x = some o) (hd : o.data = .plain) (h : Q none s) :
    wpAny (model prog w) A (tryMethod (.int n t) (PySem.dunder "mul") (.ref x)) Q E s := by
  unfold tryMethod
  refine wpAny_bind (PySem.wpAny_callSpecial?_slot (typeIs_int s n t) PySem.F.slot_int_mul (wpAny_call_entry PySem.F.slot_int_mul (typeIs_int s n t) PySem.F.entry_int_mul ?_ (PySem.F.args_int_mul_2 _ _)))
  unfold Builtin.«int.__mul__»
  obtain ⟨hp, gg, d, tk, os⟩ := s
  obtain ⟨cls, dict, data, slots⟩ := o
  subst hd
  have ho1 := ho
  wp_walk using wpAny_load ho1
  exact ⟨_, rfl, wpAny_pure h⟩
/-- n * x, x of the class: by its own __rmul__ -/
theorem mul_right {prog : Program} {w : World} {A : Around} {E : Value → Shared → Prop} {s : Shared} {K : PySem.W.Frag} {x : Addr} {ox : Obj} {od : Option Obj} {n : Int} {t : Tok} {Q : Value → Shared → Prop} {ro : Option Value} (X : K.In s.heap) (I : PySem.W.InstAt s.heap x ox C od) (hd : ox.data = .plain)
    (hx : s.heap.get? x = some ox) (c : OpT K C "mul" f g) (h1 : PySem.W.findIn K (.type "int") (PySem.dunder "mul") = some (some (.builtin "int.__mul__"))) (h2 : PySem.W.findIn K (.type "int") (dunderR "mul") = some ro)
    (h : wpAny (model prog w) A (call (.ref g) [.ref x, .int n t]) (PySem.W.CmpBack Q) E s) : wpAny (model prog w) A (binaryOp .Mult (.int n t) (.ref x)) Q E s := by
  obtain ⟨cd, rest, hcd, hm⟩ := PySem.W.ksp_first c.sf
  have one := PySem.W.ksp_try X I c.rat c.rfn h
  have oth := fun Q' (q : Q' none s) => mul_other (prog := prog) (w := w) (A := A) (E := E) (n := n) (t := t) (Q := Q') hx hd q
  have L1 : PySem.W.Looks (model prog w) s.heap (typeOf (.int n t)) (.type "int") := PySem.W.Looks.of_pure rfl
  have L2 : PySem.W.Looks (model prog w) s.heap (typeOf (.ref x)) (.ref C) := I.type
  have L3 : PySem.W.Looks (model prog w) s.heap (fillsNumberSlot (.type "int") "mul") true := by
    have := PySem.W.ksp_fillsT (M := model prog w) X h1 h2
    exact this
  have L4 : PySem.W.Looks (model prog w) s.heap (fillsNumberSlot (.ref C) "mul") true := PySem.W.fills_K X hcd hm c.at_
  have L5 : PySem.W.Looks (model prog w) s.heap (isSubtype (.ref C) (.type "int")) false := PySem.W.looks_subIn X c.sub2
  have L6 : PySem.W.Looks (model prog w) s.heap (numberSlotInPython (.type "int") "mul") false := PySem.W.Looks.of_pure rfl
  have hne : (Value.type "int" == Value.ref C) = false := Bool.eq_false_iff.mpr fun q => by cases beq_iff_eq.mp q
  have hi : Operator.Mult.info.2 = "mul" := rfl
  simp only [binaryOp]
  refine wpAny_holding (wpAny_bind ?_)
  rw [hi]
  unfold binaryOp1
  refine wpAny_bind (L1.here (wpAny_bind (L2.here (wpAny_bind (L3.here ?_)))))
  simp only [hne, Bool.false_eq_true, if_false]
  refine wpAny_bind (L4.here ?_)
  simp only [Bool.and_self, if_true, Bool.true_and, Bool.not_false]
  refine wpAny_bind (L5.here ?_)
  simp only [Bool.false_eq_true, if_false, Bool.not_false, if_true]
  refine wpAny_bind (L6.here ?_)
  simp only [Bool.false_eq_true, if_false]
  refine wpAny_bind (oth _ ?_)
  dsimp only
  refine wpAny_bind (wpAny_mono one (fun r s' z => ?_) fun _ _ e => e)
  obtain ⟨v, rfl, hq⟩ := z
  exact wpAny_bind (wpAny_rule (wpAny_pure (wpAny_pure hq)))
end
end Cs

set_option Elab.async false
set_option linter.all false
set_option maxRecDepth 100000
set_option maxHeartbeats 4000000
namespace Cs
open PySem PySem.Spec PyProof.Rows L2
section
variable {X : Cx} {CX : CXT} {k i : Nat} {f C g : Addr} {fd : FuncData} {ps : List Str} {sp : Sp} {E : XK} {a b : Expr} {ta tb : TE} {pos : Pos} {op : Operator}
theorem ins_obj {pins : List (Addr × Obj)} {σ : L2.St} {H : Hp} {s : Shared} {p dx : Addr} {fs : List (Str × V)} (I : Inv X pins σ H s) (h : H p = some (.ins C dx fs)) : ∃ ox od, PySem.W.InstAt s.heap p ox C od ∧ ox.data = .plain ∧ s.heap.get? p = some ox := by
  obtain ⟨mA, O, _⟩ := ins_get I.hok h
  obtain ⟨od, J, _⟩ := O.look
  exact ⟨_, _, J, rfl, J.at_⟩
/-- n * x -/
def rMulR (C : Addr) (sp : Sp) (E : XK) : R2 := fun x y H Q => ∃ p dp fp n, x = .int n ∧ y = .ref p ∧ H p = some (.ins C dp fp) ∧ sp [.ref p, .int n] H Q E
theorem op_mulR {ro : Option Value} (c : OpT X.K C "mul" f g) (h1 : PySem.W.findIn X.K (.type "int") (PySem.dunder "mul") = some (some (.builtin "int.__mul__"))) (h2 : PySem.W.findIn X.K (.type "int") (dunderR "mul") = some ro)
    (F : FnOk X.prog X.w X.K X.mg X.base CX k g fd ps sp) (hr : Room k X.A) (hb : Binds X.K fd ps []) (hx : Passes CX X E) : OpR X (binaryOp .Mult) (rMulR C sp E) := by
  intro pins s σ H x y v u Q I rx ry h
  obtain ⟨p, dp, fp, n, rfl, rfl, hp, k⟩ := h
  cases ry
  obtain ⟨t, rfl⟩ := rx
  obtain ⟨ox, od, J, hd, hg⟩ := ins_obj I hp
  refine mul_right I.kIn J hd hg c h1 h2 ?_
  exact wpAny_mono (run_fn (us := [.ref p, .int n t]) (vs := [.ref p, .int n]) (dvs := []) F hr hb .nil hx I (.cons rfl (.cons ⟨t, rfl⟩ .nil)) k) (fun v s' z => back_of z) fun _ _ z => z
/-- -x -/
def rNegO (C : Addr) (sp : Sp) (E : XK) : V → Hp → VK → Prop := fun x H Q => ∃ p dp fp, x = .ref p ∧ H p = some (.ins C dp fp) ∧ sp [.ref p] H Q E
theorem un_negO (c : Spc X.K C "__neg__" f) (F : FnOk X.prog X.w X.K X.mg X.base CX k f fd ps sp) (hr : Room k X.A) (hb : Binds X.K fd ps []) (hx : Passes CX X E) : UnR X (unaryOp .USub) (rNegO C sp E) := by
  intro pins s σ H x v Q I rx h
  obtain ⟨p, dp, fp, rfl, hp, k⟩ := h
  cases rx
  obtain ⟨ox, od, J, _⟩ := ins_inst I hp
  obtain ⟨m, Fr⟩ := I.fr
  exact PySem.W.ksp_neg Fr I.ok.mod.kin J c.at_ c.fn (run_fn (us := [.ref p]) (vs := [.ref p]) (dvs := []) F hr hb .nil hx I (.cons rfl .nil) k)
/-- abs(x) -/
def rAbsO (C : Addr) (sp : Sp) (E : XK) : List V → Hp → VK → Prop := fun xs H Q => ∃ p dp fp, xs = [.ref p] ∧ H p = some (.ins C dp fp) ∧ sp [.ref p] H Q E
theorem call_absO (c : Spc X.K C "__abs__" f) (F : FnOk X.prog X.w X.K X.mg X.base CX k f fd ps sp) (hr : Room (k + 1) X.A) (hb : Binds X.K fd ps []) (hx : Passes CX X E) : CallR X (.builtin "abs") (rAbsO C sp E) := by
  intro pins s σ H xs us Q I r h
  obtain ⟨p, dp, fp, rfl, hp, q⟩ := h
  rw [Vals.ref1 r]
  obtain ⟨ox, od, J, _⟩ := ins_inst I hp
  refine Calls.call_function_entry kind_abs plain_abs entry_abs (args_abs _) ?_
  unfold Builtin.«abs»
  refine wpAny_bind (m := oneArg "abs" _) (wpAny_pure ?_)
  refine wpAny_bind (m := callSpecial? (.ref p) (Str.ofString "__abs__")) (PySem.W.special_fn I.kIn J c.at_ (beq_iff_eq.mp c.fn) (wpAny_mono (run_fn1 (us := [.ref p]) (vs := [.ref p]) F hr hb hx I (.cons rfl .nil) q) (fun v s' z => ?_) fun _ _ z => z))
  exact wpAny_pure ⟨_, rfl, z⟩
/-- x op= y -/
theorem ip_own (c : OpC X.K C (dunderI op.info.2) f) (F : FnOk X.prog X.w X.K X.mg X.base CX k f fd ps sp) (hr : Room k X.A) (hb : Binds X.K fd ps []) (hx : Passes CX X E) : PIp X op (fun x y H Q => ∃ p dp fp, x = .ref p ∧ H p = some (.ins C dp fp) ∧ sp [.ref p, y] H Q E) := by
  intro pins s σ H x y v u Q I rx ry h
  obtain ⟨p, dp, fp, rfl, hp, k⟩ := h
  cases rx
  obtain ⟨ox, od, J, _⟩ := ins_inst I hp
  obtain ⟨m, Fr⟩ := I.fr
  refine PySem.W.ksp_inplace Fr I.ok.mod.kin J c.sf c.at_ c.fn ?_
  exact wpAny_mono (run_fn (us := [.ref p, u]) (vs := [.ref p, y]) (dvs := []) F hr hb .nil hx I (.cons rfl (.cons ry .nil)) k) (fun v s' z => back_of z) fun _ _ z => z
/-- x[y] by an own __getitem__ -/
def rIxO (C : Addr) (sp : Sp) (E : XK) : R2 := fun x y H Q => ∃ p dp fp, x = .ref p ∧ H p = some (.ins C dp fp) ∧ sp [.ref p, y] H Q E
theorem pe_ixO (c : Spc X.K C "__getitem__" f) (hf : PySem.W.fnIn X.K f = true) (F : FnOk X.prog X.w X.K X.mg X.base CX k f fd ps sp) (hr : Room (k + 1) X.A) (hb : Binds X.K fd ps []) (hx : Passes CX X E) (ha : PE X a ta) (hi : PE X b tb)
    (hsl : ∀ o i, subscripted b true (.ref o) i = runValue (.builtin "lifetime.subscript" ⟨[.ref o, i], []⟩) := by intro _ _; rfl) : PE X (.Subscript a b pos) (tOp (rIxO C sp E) ta tb) := by
  refine ⟨fun pins s σ H Q I h => ?_⟩
  refine Subscript_ (binT ha hi I h fun v u s2 x y H2 I2 rx ry q => ?_)
  obtain ⟨p, dp, fp, rfl, hp, q⟩ := q
  cases rx
  obtain ⟨ox, od, J, _⟩ := ins_inst I2 hp
  obtain ⟨m, Fr⟩ := I2.fr
  exact PySem.W.sub_K Fr I2.ok.mod.kin J c.at_ hf c.fn (run_fn1 (us := [.ref p, u]) (vs := [.ref p, y]) F hr hb hx I2 (.cons rfl (.cons ry .nil)) q) (hsl _ _)
end
end Cs

set_option Elab.async false
set_option linter.all false
set_option maxRecDepth 100000
set_option maxHeartbeats 4000000
/-! The law's draws: a source is a list of the script's cells and three numbers. -/
namespace Cs
open PySem L2
/-- the builtins and helper defs that are reached, by what the module's names hold -/
structure Bi (mg : Str → Option Value) : Prop where
  len : mg "len" = none
  int : mg "int" = none
  abs : mg "abs" = none
  list : mg "list" = none
  range : mg "range" = none
  sorted : mg "sorted" = none
  str : mg "str" = none
  isinstance : mg "isinstance" = none
  sum : mg "sum" = none
  tuple : mg "tuple" = none
  dict : mg "dict" = none
  all : mg "all" = none
  bool : mg "bool" = none
  enumerate : mg "enumerate" = none
/-- all but what stands at p is as it was -/
def Kp (p : Addr) (H H' : Hp) : Prop := ∀ b o, H b = some o → b ≠ p → H' b = some o
theorem Kp.refl (p : Addr) (H : Hp) : Kp p H H := fun _ _ h _ => h
theorem Kp.trans {p : Addr} {H H1 H2 : Hp} (a : Kp p H H1) (b : Kp p H1 H2) : Kp p H H2 := fun c o h n => b c o (a c o h n) n
theorem Kp.of {p : Addr} {H H1 : Hp} (a : Same H H1) : Kp p H H1 := fun c o h _ => a c o h
theorem Kp.upd {p : Addr} {H : Hp} {o : HO} : Kp p H (upd H p o) := fun c u h n => by rw [upd_ne n]; exact h
theorem Kp.seq {K : PySem.W.Frag} {p a : Addr} {H H' : Hp} {xs : List V} (k : Kp p H H') (h : SqL K H a xs) (n : a ≠ p) : SqL K H' a xs := by
  rcases h with (h | ⟨o, h⟩) | h
  · exact .inl (.inl (k _ _ h n))
  · exact .inl (.inr ⟨o, k _ _ h n⟩)
  · exact .inr h
theorem Same.new {H : Hp} {p : Addr} {o : HO} (h : H p = none) : Same H (L2.upd H p o) := fun b u e => by
  rw [upd_ne (ne_of_none e h)]
  exact e
/-- a source of draws at p, its cells at c -/
def Src (H : Hp) (p c : Addr) : Prop := ∃ (ns : List Int) (i l n : Int), H p = some (.lst [.ref c, .int i, .int l, .int n]) ∧ H c = some (.lst (ns.map V.int)) ∧ c ≠ p ∧ 0 ≤ i ∧ 0 ≤ l
theorem Src.keep {H H' : Hp} {p c : Addr} (h : Src H p c) (s : ∀ b o, (b = p ∨ b = c) → H b = some o → H' b = some o) : Src H' p c := by
  obtain ⟨ns, i, l, n, a, b, r⟩ := h
  exact ⟨ns, i, l, n, s _ _ (.inl rfl) a, s _ _ (.inr rfl) b, r⟩
theorem Src.same {H H' : Hp} {p c : Addr} (s : Same H H') (h : Src H p c) : Src H' p c := h.keep fun b o _ e => s b o e
theorem Src.at_p {H : Hp} {p c : Addr} (h : Src H p c) : ∃ xs, H p = some (.lst xs) := by
  obtain ⟨ns, i, l, n, a, _⟩ := h
  exact ⟨_, a⟩
theorem Src.at_c {H : Hp} {p c : Addr} (h : Src H p c) : ∃ xs, H c = some (.lst xs) := by
  obtain ⟨ns, i, l, n, a, b, _⟩ := h
  exact ⟨_, b⟩
theorem Src.new_p {H : Hp} {p c q : Addr} (h : Src H p c) (n : H q = none) : q ≠ p := by
  obtain ⟨xs, e⟩ := h.at_p
  exact (ne_of_none e n).symm
theorem Src.new_c {H : Hp} {p c q : Addr} (h : Src H p c) (n : H q = none) : q ≠ c := by
  obtain ⟨xs, e⟩ := h.at_c
  exact (ne_of_none e n).symm
theorem Src.tup_p {H : Hp} {p c t : Addr} {xs : List V} (h : Src H p c) (e : H t = some (.tup xs)) : t ≠ p := by
  obtain ⟨ys, a⟩ := h.at_p
  rintro rfl
  rw [e] at a
  cases a
theorem atI0 {α : Type} {a b c d : α} : atI [a, b, c, d] 0 = some a := rfl
theorem atI1 {α : Type} {a b c d : α} : atI [a, b, c, d] 1 = some b := rfl
theorem atI2 {α : Type} {a b c d : α} : atI [a, b, c, d] 2 = some c := rfl
theorem atI3 {α : Type} {a b c d : α} : atI [a, b, c, d] 3 = some d := rfl

def spMixed : Sp := fun vs H Q _ => ∃ c n : Int, vs = [.int c, .int n] ∧ ∀ v : Int, Q (.int v) H
def spDraw : Sp := fun vs H Q _ => ∃ (p c : Addr) (n : Int), vs = [.ref p, .int n] ∧ Src H p c ∧ 0 < n ∧ n < 1329227995784915872903807060280344576 ∧ ∀ (v : Int) (H' : Hp), 0 ≤ v → v < n → Src H' p c → Kp p H H' → Q (.int v) H'
def spSource (K : PySem.W.Frag) : Sp := fun vs H Q _ => ∃ (a : Addr) (ns : List Int), vs = [.ref a] ∧ SqL K H a (ns.map V.int) ∧ ∀ (p c : Addr) (H' : Hp), H p = none → H c = none → Same H H' → Src H' p c → Q (.ref p) H'

section
variable {P : Program} {w : World} {K : PySem.W.Frag} {mg : Str → Option Value} {base : Heap}
theorem ok_mixed {f : Addr} {fd : FuncData} (F : Fun K "_law_mixed" "_law_mixed" s_l_mixed f fd) (g : Bi mg) : FnOk P w K mg base CX0 1 f fd ["_law_cell", "_law_count"] spMixed := by
  refine F.ok sc_l_mixed (fun vs H Q E h => ?_) (fun cdv A outer s H vs Q E hr h => ?_)
  · obtain ⟨_, _, rfl, _⟩ := h
    rfl
  · obtain ⟨c, n, rfl, k⟩ := h
    refine ⟨_, (pss_cons (ps_if (pt_cmpR op_eq (pv 0) pe_int (nomark _)) (pss_one (ps_ret pe_int)) pss_nil)
      (pss_cons (ps_set (i := 2) sc_l_mixed.nd rfl (Or.inl rfl) (pe_op op_mod (pe_callTy call_int1 (by rfl) g.int (by decide +kernel) (pa_cons (pe_op op_add (pe_op op_mul (pv 0) pe_int) (pe_op op_mul (pv 1) pe_int)) pa_nil)) pe_int))
      (pss_one (ps_ret (pe_op op_fdiv (pe_op op_mod (pe_callTy call_int1 (by rfl) g.int (by decide +kernel) (pa_cons (pe_op op_add (pe_op op_add (pe_op op_mul (pv 2) pe_int) (pe_op op_mul (pe_op op_fdiv (pv 2) pe_int) (pv 1))) pe_int) pa_nil)) pe_int) pe_int))))), ?_⟩
    refine ⟨_, rfl, rfl, _, rfl, ite2 (fun _ => k _) (fun _ => ?_)⟩
    refine ⟨_, rfl, _, _, rfl, rfl, .inr ⟨by decide, by decide⟩, _, rfl, _, _, rfl, rfl, .inr ⟨by decide, by decide⟩, _, _, rfl, rfl, Or.inl ⟨_, rfl, _, _, rfl, rfl, (by show (0 : Int) < 2147483647; decide), ?_⟩⟩
    generalize hf : (c * 48271 + n * 69621) % 2147483647 = a
    have h0 : 0 ≤ a := by rw [← hf]; exact Int.emod_nonneg _ (by decide)
    have h1 : a < 2147483647 := by rw [← hf]; exact Int.emod_lt_of_pos _ (by decide)
    refine ⟨_, rfl, _, _, rfl, rfl, .inr ⟨by decide, by decide⟩, _, rfl, _, _, rfl, rfl, ⟨by decide, by decide⟩, _, rfl, _, _, rfl, rfl, .inl ⟨by omega, by omega⟩, _, _, rfl, rfl, _, _, rfl, rfl, Or.inl ⟨_, rfl, _, _, rfl, rfl, (by show (0 : Int) < 2147483399; decide), _, _, rfl, rfl, ⟨by decide, by decide⟩, k _⟩⟩
theorem ok_source {f : Addr} {fd : FuncData} (F : Fun K "_law_source" "_law_source" s_l_source f fd) (g : Bi mg) : FnOk P w K mg base CX0 1 f fd ["_law_script"] (spSource K) := by
  refine F.ok sc_l_source (fun vs H Q E h => ?_) (fun cdv A outer s H vs Q E hr h => ?_)
  · obtain ⟨_, _, rfl, _⟩ := h
    rfl
  · obtain ⟨a, ns, rfl, hS, k⟩ := h
    refine ⟨_, (pss_one (ps_ret (pe_lst (pa_cons (pe_callTy call_list_of (by rfl) g.list (by decide +kernel) (pa_cons (pe_slice sl_list (pv 0) po_none (po_some pe_int)) pa_nil)) (pa_cons pe_int (pa_cons pe_int (pa_cons pe_int pa_nil))))))), ?_⟩
    refine ⟨_, rfl, _, rfl, a, _, rfl, hS, fun q hq => ⟨q, _, rfl, .inl (SqL.of upd_same), fun c hc => ⟨by show 4 ≤ sizeLine; decide, fun p hp => ?_⟩⟩⟩
    have s1 : Same H (upd H q (.lst (cutV (ns.map V.int) none (some 63)))) := Same.new hq
    have s2 := s1.trans (Same.new (o := .lst (cutV (ns.map V.int) none (some 63))) hc)
    have s3 := s2.trans (Same.new (o := .lst [.ref c, .int 0, .int 0, .int 0]) hp)
    have ncp : c ≠ p := ne_of_none (H := upd _ c _) upd_same hp
    obtain ⟨ms, em⟩ : ∃ ms : List Int, cutV (ns.map V.int) none (some 63) = ms.map V.int := by
      unfold cutV
      rw [← List.map_drop, ← List.map_take]
      exact ⟨_, rfl⟩
    refine k p c _ (s2.free hp) (s1.free hc) s3 ⟨ms, 0, 0, 0, upd_same, ?_, ncp, by decide, by decide⟩
    rw [upd_ne ncp, upd_same, em]
theorem ok_draw {f fM : Addr} {fd fdM : FuncData} (F : Fun K "_law_draw" "_law_draw" s_l_draw f fd) (g : Bi mg) (FM : Fun K "_law_mixed" "_law_mixed" s_l_mixed fM fdM) (mM : mg "_law_mixed" = some (.ref fM)) (bM : Binds K fdM ["_law_cell", "_law_count"] []) :
    FnOk P w K mg base CX0 2 f fd ["_law_source_here", "_law_size"] spDraw := by
  have GM : FnOk P w K mg base CX0 1 fM fdM ["_law_cell", "_law_count"] spMixed := ok_mixed FM g
  refine F.ok sc_l_draw (fun vs H Q E h => ?_) (fun cdv A outer s H vs Q E hr h => ?_)
  · obtain ⟨_, _, _, rfl, _⟩ := h
    rfl
  · obtain ⟨p, c, n, rfl, ⟨ns, i, l, m, hp, hc, ncp, hi, hl⟩, n0, n1, k⟩ := h
    have hrM : Room 1 _ := hr.mono (by decide)
    refine ⟨_, (pss_cons (ps_asg (pe_op op_add (pe_ix ix_list (pv 0) pe_int (fun _ _ => rfl)) pe_int) (pg_sub (pv 0) pe_int set_list))
      (C8.pss_cut (ps_if (PW.pt (pw_and (pt_cmpR op_eq (pe_ix ix_list (pv 0) pe_int (fun _ _ => rfl)) pe_int (nomark _)) (pw_and1 (pt_cmpR op_gt (pe_callB call_len (by rfl) g.len PySem.boot_len (pa_cons (pe_ix ix_list (pv 0) pe_int (fun _ _ => rfl)) pa_nil)) pe_int (nomark _))))) (pss_cons (ps_set (i := 2) sc_l_draw.nd rfl (Or.inl rfl) (pe_ix ix_list (pv 0) pe_int (fun _ _ => rfl)))
      (pss_cons (ps_set (i := 3) sc_l_draw.nd rfl (Or.inl rfl) (pe_ix ix_list (pe_ix ix_list (pv 0) pe_int (fun _ _ => rfl)) (pe_op op_mod (pe_callTy call_int1 (by rfl) g.int (by decide +kernel) (pa_cons (pv 2) pa_nil)) (pe_callB call_len (by rfl) g.len PySem.boot_len (pa_cons (pe_ix ix_list (pv 0) pe_int (fun _ _ => rfl)) pa_nil))) (fun _ _ => rfl)))
      (pss_cons (ps_asg (pe_op op_add (pv 2) pe_int) (pg_sub (pv 0) pe_int set_list))
      (pss_one (ps_if (PW.pt (pw_and (pt_cmpR op_lt (pv 2) (pe_callB call_len (by rfl) g.len PySem.boot_len (pa_cons (pe_ix ix_list (pv 0) pe_int (fun _ _ => rfl)) pa_nil)) (nomark _)) (pw_and1 (pt_cmpR op_ge (pe_callB call_abs (by rfl) g.abs (by decide +kernel) (pa_cons (pv 3) pa_nil)) (pe_op op_pow pe_int pe_int) (nomark _))))) (pss_one (ps_asg (pe_callB call_abs (by rfl) g.abs (by decide +kernel) (pa_cons (pv 3) pa_nil)) (pg_sub (pv 0) pe_int set_list))) (pss_one (ps_ret (pe_op op_mod (pe_callTy call_int1 (by rfl) g.int (by decide +kernel) (pa_cons (pe_call GM hrM rfl mM FM.kp bM .nil pass0 (pa_cons (pv 3) (pa_cons (pe_ix ix_list (pv 0) pe_int (fun _ _ => rfl)) pa_nil))) pa_nil)) (pv 1))))))))) pss_nil)
      (pss_cons (ps_set (i := 4) sc_l_draw.nd rfl (Or.inl rfl) (pe_op op_mod (pe_callTy call_int1 (by rfl) g.int (by decide +kernel) (pa_cons (pe_ix ix_list (pv 0) pe_int (fun _ _ => rfl)) pa_nil)) (pv 1)))
      (pss_cons (ps_asg (pe_op op_fdivW (pe_ix ix_list (pv 0) pe_int (fun _ _ => rfl)) (pv 1)) (pg_sub (pv 0) pe_int set_list))
      (pss_one (ps_ret (pv 4))))))), ?_⟩
    have c1 : ∀ o, (upd H p o) c = some (.lst (ns.map V.int)) := fun o => by rw [upd_ne ncp]; exact hc
    have q1 : ∀ xs, SqL K (upd H p (.lst xs)) p xs := fun xs => SqL.of upd_same
    have q2 : ∀ o, SqL K (upd H p o) c (ns.map V.int) := fun o => SqL.of (c1 o)
    refine ⟨_, rfl, p, _, _, _, rfl, rfl, SqL.of hp, atI3, _, _, rfl, rfl, _, rfl, p, _, _, 3, rfl, rfl, hp, rfl, ?_⟩
    have e1 : ([V.ref c, .int i, .int l, .int m].set 3 (.int (m + 1))) = [V.ref c, .int i, .int l, .int (m + 1)] := rfl
    rw [e1]
    refine ⟨fun σ' H2 => ∃ x2 x3 x4 j l2, σ' = [some (.ref p), some (.int n), x2, x3, x4] ∧ H2 p = some (.lst [.ref c, .int j, .int l2, .int (m + 1)]) ∧ H2 c = some (.lst (ns.map V.int)) ∧ 0 ≤ j ∧ 0 ≤ l2 ∧ Kp p H H2, ?_, ?_⟩
    · refine ⟨_, rfl, p, _, _, _, rfl, rfl, q1 _, atI2, rfl, _, rfl, ?_⟩
      refine ite2 (fun z => ?_) (fun z => ?_)
      · refine ⟨_, rfl, p, _, _, _, rfl, rfl, q1 _, atI0, _, _, rfl, .inl ⟨_, q2 _, rfl⟩, _, _, rfl, rfl, _, rfl, ?_⟩
        rw [List.length_map]
        refine ite2 (fun z2 => ?_) (fun z2 => ?_)
        · have hlen : 0 < ns.length := by simpa using z2
          refine ⟨_, rfl, p, _, _, _, rfl, rfl, q1 _, atI1, ?_⟩
          have hx0 : 0 ≤ i % (ns.length : Int) := Int.emod_nonneg _ (by omega)
          have hx1 : i % (ns.length : Int) < (ns.length : Int) := Int.emod_lt_of_pos _ (by omega)
          obtain ⟨j, ej⟩ : ∃ j : Nat, i % (ns.length : Int) = (j : Int) := ⟨(i % (ns.length : Int)).toNat, by omega⟩
          have hj : j < ns.length := by omega
          have hat : atI (ns.map V.int) (i % ((ns.map V.int).length : Int)) = some (.int ns[j]) := by
            rw [List.length_map, ej]
            exact atI_nat (by rw [List.getElem?_map, List.getElem?_eq_getElem hj]; rfl)
          refine ⟨_, rfl, p, _, _, _, rfl, rfl, q1 _, atI0, _, rfl, Or.inl ⟨_, rfl, _, rfl, p, _, _, _, rfl, rfl, q1 _, atI0, _, _, rfl, .inl ⟨_, q2 _, rfl⟩, _, _, rfl, rfl, (by rw [List.length_map]; omega), c, _, _, _, rfl, rfl, q2 _, hat, ?_⟩⟩
          refine ⟨_, rfl, _, _, rfl, rfl, _, rfl, p, _, _, 1, rfl, rfl, upd_same, rfl, ?_⟩
          have e2 : ([V.ref c, .int i, .int l, .int (m + 1)].set 1 (.int (i + 1))) = [V.ref c, .int (i + 1), .int l, .int (m + 1)] := rfl
          rw [e2]
          have c2 : ∀ o o', (upd (upd H p o) p o') c = some (.lst (ns.map V.int)) := fun o o' => by rw [upd_ne ncp]; exact c1 o
          have kp2 : ∀ o o', Kp p H (upd (upd H p o) p o') := fun o o' => Kp.upd.trans Kp.upd
          have other : ∀ v : Int, Q (.int (v % n)) (upd (upd H p (.lst [.ref c, .int i, .int l, .int (m + 1)])) p (.lst [.ref c, .int (i + 1), .int l, .int (m + 1)])) := fun v =>
            k _ _ (Int.emod_nonneg _ (by omega)) (Int.emod_lt_of_pos _ n0) ⟨ns, i + 1, l, m + 1, upd_same, c2 _ _, ncp, by omega, hl⟩ (kp2 _ _)
          refine ⟨_, rfl, _, rfl, p, _, _, _, rfl, rfl, SqL.of upd_same, atI0, _, _, rfl, .inl ⟨_, SqL.of (c2 _ _), rfl⟩, _, _, rfl, rfl, _, rfl, ?_⟩
          refine ite2 (fun z3 => ?_) (fun z3 => ?_)
          · refine ⟨_, rfl, _, rfl, _, _, rfl, rfl, ⟨by decide, by decide, by decide⟩, _, _, rfl, rfl, _, rfl, ?_⟩
            refine ite2 (fun z4 => ?_) (fun z4 => ?_)
            · refine ⟨_, rfl, _, rfl, _, rfl, p, _, _, 2, rfl, rfl, upd_same, rfl, ?_⟩
              refine ⟨_, _, _, i + 1, _, rfl, upd_same, by rw [upd_ne ncp]; exact c2 _ _, by omega, ?_, (kp2 _ _).trans Kp.upd⟩
              split <;> omega
            · refine ⟨_, rfl, _, rfl, p, _, _, _, rfl, rfl, SqL.of upd_same, atI3, _, _, rfl, fun v => Or.inl ⟨_, rfl, _, rfl, _, _, rfl, rfl, n0, other v⟩⟩
          · refine ⟨_, rfl, _, rfl, p, _, _, _, rfl, rfl, SqL.of upd_same, atI3, _, _, rfl, fun v => Or.inl ⟨_, rfl, _, rfl, _, _, rfl, rfl, n0, other v⟩⟩
        · exact ⟨_, _, _, i, l, rfl, upd_same, c1 _, hi, hl, Kp.upd⟩
      · exact ⟨_, _, _, i, l, rfl, upd_same, c1 _, hi, hl, Kp.upd⟩
    · rintro σ' H2 ⟨x2, x3, x4, j, l2, rfl, hp2, hc2, j0, l0, kp⟩
      refine ⟨_, rfl, p, _, _, _, rfl, rfl, SqL.of hp2, atI2, Or.inl ⟨_, rfl, _, rfl, _, _, rfl, rfl, n0, ?_⟩⟩
      refine ⟨_, rfl, p, _, _, _, rfl, rfl, SqL.of hp2, atI2, _, rfl, _, _, rfl, rfl, wide_div (b := 120) n0 (by omega) (by decide) (by decide), _, rfl, p, _, _, 2, rfl, rfl, hp2, rfl, ?_⟩
      refine ⟨_, rfl, ?_⟩
      exact k _ _ (Int.emod_nonneg _ (by omega)) (Int.emod_lt_of_pos _ n0) ⟨ns, j, l2 / n, m + 1, upd_same, by rw [upd_ne ncp]; exact hc2, ncp, j0, Int.ediv_nonneg l0 (by omega)⟩ (kp.trans Kp.upd)
end
end Cs

set_option Elab.async false
set_option linter.all false
set_option maxRecDepth 100000
set_option maxHeartbeats 4000000
/-! The law's words, numbers and pairs. -/
namespace Cs
open PySem L2
def LET : Str := "abcdefghijklmnopqrstuvwxyz"
/-- one to eight letters -/
def Word (z : Str) : Prop := 1 ≤ z.length ∧ z.length ≤ 8 ∧ ∀ c ∈ z.cps.toList, c ∈ LET.cps.toList
/-- at most thirty digits -/
def Small (n : Int) : Prop := -(10 ^ 30) < n ∧ n < 10 ^ 30
theorem len_add (x y : Str) : (x ++ y).length = x.length + y.length := by
  show (x.cps ++ y.cps).size = x.cps.size + y.cps.size
  exact Array.size_append
theorem cps_add (x y : Str) : (x ++ y).cps.toList = x.cps.toList ++ y.cps.toList := by
  show (x.cps ++ y.cps).toList = _
  exact Array.toList_append
def wordB (z : Str) : Bool := decide (1 ≤ z.length) && decide (z.length ≤ 8) && z.cps.toList.all fun c => decide (c ∈ LET.cps.toList)
theorem word_of {z : Str} (h : wordB z = true) : Word z := by
  unfold wordB at h
  simp only [Bool.and_eq_true, decide_eq_true_eq, List.all_eq_true] at h
  exact ⟨h.1.1, h.1.2, h.2⟩
theorem ats_of {α : Type} {xs : List α} {z : Int} {j : Nat} {v : α} (e : z = (j : Int)) (h : xs[j]? = some v) : atI xs z = some v := by
  rw [e]
  exact atI_nat h
def spWord : Sp := fun vs H Q _ => ∃ p c : Addr, vs = [.ref p] ∧ Src H p c ∧ ∀ (z : Str) (H' : Hp), Word z → Src H' p c → Kp p H H' → Q (.str z) H'
def spNumber : Sp := fun vs H Q _ => ∃ p c : Addr, vs = [.ref p] ∧ Src H p c ∧ ∀ (n : Int) (H' : Hp), Small n → Src H' p c → Kp p H H' → Q (.int n) H'
/-- the items are tuples of a text and a number -/
def PrL (H : Hp) : List V → List (Str × Int) → Prop := Paired fun x q => ∃ t, x = V.ref t ∧ H t = some (.tup [.str q.1, .int q.2])
def GoodPs (ps : List (Str × Int)) : Prop := ∀ q ∈ ps, Word q.1 ∧ Small q.2
def spPairs : Sp := fun vs H Q _ => ∃ (p c : Addr) (m : Int), vs = [.ref p, .int m] ∧ Src H p c ∧ 0 ≤ m ∧ m ≤ 1000 ∧
  ∀ (q : Addr) (H' : Hp) (xs : List V) (ps : List (Str × Int)), H q = none → H' q = some (.lst xs) → PrL H' xs ps → GoodPs ps → (ps.length : Int) ≤ m → Src H' p c → Kp p H H' → Q (.ref q) H'
theorem PrL.mono {H H' : Hp} {xs : List V} {ps : List (Str × Int)} (h : PrL H xs ps) (k : ∀ t a b, H t = some (.tup [.str a, .int b]) → H' t = some (.tup [.str a, .int b])) : PrL H' xs ps :=
  Paired.mapP h fun x q ⟨t, e, r⟩ => ⟨t, e, k t _ _ r⟩
theorem PrL.length {H : Hp} : ∀ {xs : List V} {ps : List (Str × Int)}, PrL H xs ps → xs.length = ps.length
  | _, _, .nil => rfl
  | _, _, .cons _ t => congrArg (· + 1) (PrL.length t)
theorem PrL.at {H : Hp} : ∀ {xs : List V} {ps : List (Str × Int)}, PrL H xs ps → ∀ {i : Nat} {q : Str × Int}, ps[i]? = some q → ∃ t, xs[i]? = some (V.ref t) ∧ H t = some (.tup [.str q.1, .int q.2])
  | _, _, .nil, i, q, h => by simp at h
  | _, _, .cons (a := a) r t, 0, q, h => by
    obtain ⟨u, e, hu⟩ := r
    obtain rfl := Option.some.inj h
    exact ⟨u, by rw [e]; rfl, hu⟩
  | _, _, .cons r t, i + 1, q, h => PrL.at t h
theorem PrL.snoc {H : Hp} : ∀ {xs : List V} {ps : List (Str × Int)} {t : Addr} {a : Str} {b : Int}, PrL H xs ps → H t = some (.tup [.str a, .int b]) → PrL H (xs ++ [.ref t]) (ps ++ [(a, b)])
  | _, _, _, _, _, .nil, h => .cons ⟨_, rfl, h⟩ .nil
  | _, _, _, _, _, .cons r t, h => .cons r (PrL.snoc t h)
section
variable {P : Program} {w : World} {K : PySem.W.Frag} {mg : Str → Option Value} {base : Heap}
/-- a def of the module as its callers have it: its promise, its name, that it stays, how its arguments bind -/
structure Def (P : Program) (w : World) (K : PySem.W.Frag) (mg : Str → Option Value) (base : Heap) (CX : CXT) (k : Nat) (x : Str) (ps : List Str) (sp : Sp) (f : Addr) (fd : FuncData) : Prop where
  ok : FnOk P w K mg base CX k f fd ps sp
  m : mg x = some (.ref f)
  kp : PySem.W.keepIn K (.ref f) = true
  b : Binds K fd ps []
theorem ok_word {f fD : Addr} {fd fdD : FuncData} (F : Fun K "_law_word" "_law_word" s_l_word f fd) (g : Bi mg) (FD : Def P w K mg base CX0 2 "_law_draw" ["_law_source_here", "_law_size"] spDraw fD fdD) : FnOk P w K mg base CX0 3 f fd ["_law_source_here"] spWord := by
  obtain ⟨GD, mD, _, bD⟩ := id FD
  refine F.ok sc_l_word (fun vs H Q E h => ?_) (fun cdv A outer s H vs Q E hr h => ?_)
  · obtain ⟨_, _, rfl, _⟩ := h
    rfl
  · obtain ⟨p, c, rfl, hS, k⟩ := h
    have hrD : Room 2 _ := hr.mono (by decide)
    refine ⟨_, (pss_cons (ps_if (pt_cmpR op_eq (pe_call GD hrD rfl mD FD.kp bD .nil pass0 (pa_cons (pv 0) (pa_cons pe_int pa_nil))) pe_int (nomark _)) (pss_cons (ps_set (i := 1) sc_l_word.nd rfl (Or.inl rfl) (pe_lst (pa_cons pe_str (pa_cons pe_str (pa_cons pe_str (pa_cons pe_str (pa_cons pe_str (pa_cons pe_str (pa_cons pe_str (pa_cons pe_str pa_nil))))))))))
      (pss_one (ps_ret (pe_ix ix_list (pv 1) (pe_call GD hrD rfl mD FD.kp bD .nil pass0 (pa_cons (pv 0) (pa_cons pe_int pa_nil))) (fun _ _ => rfl))))) pss_nil)
      (pss_cons (ps_set (i := 2) sc_l_word.nd rfl (Or.inl rfl) pe_str)
      (pss_cons (ps_for PassesOwn.never rfl (pi_range1 rfl g.range (pa_cons (pe_op op_add pe_int (pe_call GD hrD rfl mD FD.kp bD .nil pass0 (pa_cons (pv 0) (pa_cons pe_int pa_nil)))) pa_nil)) (pg_name (i := 3) sc_l_word.nd rfl (Or.inl rfl)) (pss_one (ps_set (i := 2) sc_l_word.nd rfl (Or.inl rfl) (pe_op op_add_str (pv 2) (pe_ix ix_str pe_str (pe_call GD hrD rfl mD FD.kp bD .nil pass0 (pa_cons (pv 0) (pa_cons pe_int pa_nil))) (fun _ _ => rfl))))))
      (pss_one (ps_ret (pv 2)))))), ?_⟩
    refine ⟨_, rfl, p, c, 8, rfl, hS, by decide, by decide, fun v H1 v0 v1 S1 k1 => ⟨rfl, _, rfl, ite2 (fun z => ?_) (fun z => ?_)⟩⟩
    · refine ⟨by show 8 ≤ sizeLine; decide, fun l hl => ?_⟩
      have s2 : Same H1 (upd H1 l (.lst [.str "self", .str "hold", .str "gone", .str "main", .str "zzzzzzzz", .str "aaaaaaab", .str "if", .str "spare"])) := Same.new hl
      have nlp : l ≠ p := S1.new_p hl
      refine ⟨_, rfl, _, rfl, p, c, 8, rfl, S1.same s2, by decide, by decide, fun v2 H2 a0 a1 S2 k2 => ?_⟩
      have hl2 := k2 l _ upd_same nlp
      have key : ∀ j : Nat, j < 8 → ∃ z : Str, ([.str "self", .str "hold", .str "gone", .str "main", .str "zzzzzzzz", .str "aaaaaaab", .str "if", .str "spare"] : List V)[j]? = some (.str z) ∧ Word z := by
        intro j hj
        match j, hj with
        | 0, _ => exact ⟨_, rfl, word_of (by decide +kernel)⟩
        | 1, _ => exact ⟨_, rfl, word_of (by decide +kernel)⟩
        | 2, _ => exact ⟨_, rfl, word_of (by decide +kernel)⟩
        | 3, _ => exact ⟨_, rfl, word_of (by decide +kernel)⟩
        | 4, _ => exact ⟨_, rfl, word_of (by decide +kernel)⟩
        | 5, _ => exact ⟨_, rfl, word_of (by decide +kernel)⟩
        | 6, _ => exact ⟨_, rfl, word_of (by decide +kernel)⟩
        | 7, _ => exact ⟨_, rfl, word_of (by decide +kernel)⟩
      obtain ⟨z, ez, hz⟩ := key v2.toNat (by omega)
      refine ⟨l, _, v2, _, rfl, rfl, SqL.of hl2, at_of (z := v2) (j := v2.toNat) (by omega) ez, ?_⟩
      exact k z H2 hz S2 ((k1.trans (Kp.of s2)).trans k2)
    · refine ⟨_, rfl, p, c, 8, rfl, S1, by decide, by decide, fun v2 H2 a0 a1 S2 k2 => ⟨_, _, rfl, rfl, _, rfl, by omega, by omega, ?_⟩⟩
      refine for_range (lo := 0) (n := (1 + v2).toNat) (fun i σ' H' => ∃ (z : Str) (x1 x3 : Option V), σ' = [some (.ref p), x1, some (.str z), x3] ∧ z.length = i ∧ (∀ y ∈ z.cps.toList, y ∈ LET.cps.toList) ∧ Src H' p c ∧ Kp p H H')
        ⟨"", _, _, rfl, rfl, (by intro y hc; cases hc), S2, k1.trans k2⟩ ?_ ?_
      · rintro i σ' H' hi ⟨z, x1, x3, rfl, hz, hc, S', kp'⟩
        refine ⟨_, rfl, _, rfl, p, c, 26, rfl, S', by decide, by decide, fun v3 H3 b0 b1 S3 k3 => ?_⟩
        have hx : v3.toNat < LET.cps.toList.length := by
          have : LET.cps.toList.length = 26 := by decide +kernel
          omega
        refine ⟨LET, v3, LET.cps.toList[v3.toNat], rfl, rfl, by decide +kernel, ats_of (z := v3) (j := v3.toNat) (by omega) (List.getElem?_eq_getElem hx), z, _, rfl, rfl, ?_, ?_⟩
        · have : (⟨#[LET.cps.toList[v3.toNat]]⟩ : Str).length = 1 := rfl
          rw [this, hz]
          exact Nat.le_trans (show i + 1 ≤ 1000 by omega) (by decide)
        · refine ⟨_, _, _, rfl, ?_, fun y hc' => ?_, S3, kp'.trans k3⟩
          · rw [len_add, hz]
            rfl
          · rw [cps_add] at hc'
            rcases List.mem_append.mp hc' with q | q
            · exact hc y q
            · have e : y = LET.cps.toList[v3.toNat] := by simpa using q
              rw [e]
              exact List.getElem_mem hx
      · rintro σ' H' ⟨z, x1, x3, rfl, hz, hc, S', kp'⟩
        exact ⟨_, rfl, k z H' ⟨by omega, by omega, hc⟩ S' kp'⟩
theorem ok_number {f fD : Addr} {fd fdD : FuncData} (F : Fun K "_law_number" "_law_number" s_l_number f fd) (g : Bi mg) (FD : Def P w K mg base CX0 2 "_law_draw" ["_law_source_here", "_law_size"] spDraw fD fdD) : FnOk P w K mg base CX0 3 f fd ["_law_source_here"] spNumber := by
  obtain ⟨GD, mD, _, bD⟩ := id FD
  refine F.ok sc_l_number (fun vs H Q E h => ?_) (fun cdv A outer s H vs Q E hr h => ?_)
  · obtain ⟨_, _, rfl, _⟩ := h
    rfl
  · obtain ⟨p, c, rfl, hS, k⟩ := h
    have hrD : Room 2 _ := hr.mono (by decide)
    refine ⟨_, (pss_cons (ps_set (i := 1) sc_l_number.nd rfl (Or.inl rfl) (pe_call GD hrD rfl mD FD.kp bD .nil pass0 (pa_cons (pv 0) (pa_cons pe_int pa_nil))))
      (pss_cons (ps_if (pt_cmpR op_eq (pv 1) pe_int (nomark _)) (pss_one (ps_ret (pe_op op_sub (pe_call GD hrD rfl mD FD.kp bD .nil pass0 (pa_cons (pv 0) (pa_cons pe_int pa_nil))) pe_int))) pss_nil)
      (pss_cons (ps_if (pt_cmpR op_eq (pv 1) pe_int (nomark _)) (pss_one (ps_ret (pe_op op_sub (pe_call GD hrD rfl mD FD.kp bD .nil pass0 (pa_cons (pv 0) (pa_cons pe_int pa_nil))) pe_int))) pss_nil)
      (pss_cons (ps_set (i := 2) sc_l_number.nd rfl (Or.inl rfl) pe_int)
      (pss_cons (ps_for PassesOwn.never rfl (pi_range1 rfl g.range (pa_cons pe_int pa_nil)) (pg_name (i := 3) sc_l_number.nd rfl (Or.inl rfl)) (pss_one (ps_set (i := 2) sc_l_number.nd rfl (Or.inl rfl) (pe_op op_add (pe_op op_mul (pv 2) (pe_op op_pow pe_int pe_int)) (pe_call GD hrD rfl mD FD.kp bD .nil pass0 (pa_cons (pv 0) (pa_cons (pe_op op_pow pe_int pe_int) pa_nil)))))))
      (pss_cons (ps_set (i := 2) sc_l_number.nd rfl (Or.inl rfl) (pe_op op_mod (pe_callTy call_int1 (by rfl) g.int (by decide +kernel) (pa_cons (pv 2) pa_nil)) (pe_op op_pow pe_int pe_int)))
      (pss_one (ps_ret (pe_ifExp (pt_cmpR op_eq (pv 1) pe_int (nomark _)) (pv 2) (pe_un un_neg (pv 2))))))))))), ?_⟩
    refine ⟨_, rfl, p, c, 4, rfl, hS, by decide, by decide, fun v H1 v0 v1 S1 k1 => ?_⟩
    refine ⟨_, rfl, rfl, _, rfl, ite2 (fun z => ?_) (fun z => ?_)⟩
    · refine ⟨_, rfl, p, c, 7, rfl, S1, by decide, by decide, fun v2 H2 a0 a1 S2 k2 => ⟨_, _, rfl, rfl, k _ _ ⟨by omega, by omega⟩ S2 (k1.trans k2)⟩⟩
    refine ⟨_, rfl, rfl, _, rfl, ite2 (fun z => ?_) (fun z => ?_)⟩
    · refine ⟨_, rfl, p, c, 2001, rfl, S1, by decide, by decide, fun v2 H2 a0 a1 S2 k2 => ⟨_, _, rfl, rfl, k _ _ ⟨by omega, by omega⟩ S2 (k1.trans k2)⟩⟩
    refine ⟨4, rfl, by decide, by decide, ?_⟩
    refine for_range (lo := 0) (n := 4) (fun i σ' H' => ∃ (n : Int) (x3 : Option V), σ' = [some (.ref p), some (.int v), some (.int n), x3] ∧ Src H' p c ∧ Kp p H H') ⟨0, _, rfl, S1, k1⟩ ?_ ?_
    · rintro i σ' H' hi ⟨n, x3, rfl, S', kp'⟩
      refine ⟨_, rfl, _, _, rfl, rfl, ⟨by decide, by decide, by decide⟩, _, _, rfl, rfl, .inr ⟨by decide, by decide⟩, _, rfl, _, _, rfl, rfl, ⟨by decide, by decide, by decide⟩, p, c, _, rfl, S', by decide, by decide, fun v3 H3 b0 b1 S3 k3 => ?_⟩
      exact ⟨_, _, rfl, rfl, _, _, rfl, S3, kp'.trans k3⟩
    · rintro σ' H' ⟨n, x3, rfl, S', kp'⟩
      refine ⟨_, rfl, Or.inl ⟨_, rfl, _, _, rfl, rfl, ⟨by decide, by decide, by decide⟩, _, _, rfl, rfl, (by show (0 : Int) < 10 ^ 30; decide), ?_⟩⟩
      have e : ((10 : Int) ^ (30 : Int).toNat) = 10 ^ 30 := rfl
      rw [e]
      have h0 : 0 ≤ n % 10 ^ 30 := Int.emod_nonneg _ (by decide)
      have h1 : n % 10 ^ 30 < 10 ^ 30 := Int.emod_lt_of_pos _ (by decide)
      refine ⟨_, rfl, rfl, _, rfl, ite2 (fun z => ?_) (fun z => ?_)⟩
      · exact ⟨_, rfl, k _ _ ⟨by omega, h1⟩ S' kp'⟩
      · exact ⟨_, rfl, _, rfl, k _ _ ⟨by omega, by omega⟩ S' kp'⟩
end
end Cs

set_option Elab.async false
set_option linter.all false
set_option maxRecDepth 100000
set_option maxHeartbeats 4000000
namespace Cs
open PySem L2
section
variable {P : Program} {w : World} {K : PySem.W.Frag} {mg : Str → Option Value} {base : Heap}
theorem ok_pairs {f fD fW fN : Addr} {fd fdD fdW fdN : FuncData} (F : Fun K "_law_pairs" "_law_pairs" s_l_pairs f fd) (g : Bi mg) (FD : Def P w K mg base CX0 2 "_law_draw" ["_law_source_here", "_law_size"] spDraw fD fdD)
    (FW : Def P w K mg base CX0 3 "_law_word" ["_law_source_here"] spWord fW fdW) (FN : Def P w K mg base CX0 3 "_law_number" ["_law_source_here"] spNumber fN fdN) :
    FnOk P w K mg base CX0 4 f fd ["_law_source_here", "_law_most"] spPairs := by
  obtain ⟨GD, mD, _, bD⟩ := id FD
  obtain ⟨GW, mW, _, bW⟩ := id FW
  obtain ⟨GN, mN, _, bN⟩ := id FN
  refine F.ok sc_l_pairs (fun vs H Q E h => ?_) (fun cdv A outer s H vs Q E hr h => ?_)
  · obtain ⟨_, _, _, rfl, _⟩ := h
    rfl
  · obtain ⟨p, cc, m, rfl, hS, m0, m1, k⟩ := h
    have hrD : Room 2 _ := hr.mono (by decide)
    have hrW : Room 3 _ := hr.mono (by decide)
    have hrN : Room 3 _ := hr.mono (by decide)
    refine ⟨_, (pss_cons (ps_set (i := 2) sc_l_pairs.nd rfl (Or.inl rfl) (pe_lst pa_nil))
      (pss_cons (ps_for PassesOwn.never rfl (pi_range1 rfl g.range (pa_cons (pe_call GD hrD rfl mD FD.kp bD .nil pass0 (pa_cons (pv 0) (pa_cons (pe_op op_add (pv 1) pe_int) pa_nil))) pa_nil)) (pg_name (i := 3) sc_l_pairs.nd rfl (Or.inl rfl)) (pss_cons (ps_set (i := 4) sc_l_pairs.nd rfl (Or.inl rfl) (pe_call GW hrW rfl mW FW.kp bW .nil pass0 (pa_cons (pv 0) pa_nil)))
      (C8.pss_cut (ps_if (PW.pt (pw_and (pt_cmpR op_gt (pe_callB call_len (by rfl) g.len PySem.boot_len (pa_cons (pv 2) pa_nil)) pe_int (nomark _)) (pw_and1 (pt_cmpR op_eq (pe_call GD hrD rfl mD FD.kp bD .nil pass0 (pa_cons (pv 0) (pa_cons pe_int pa_nil))) pe_int (nomark _))))) (pss_one (ps_set (i := 4) sc_l_pairs.nd rfl (Or.inl rfl) (pe_ix ix_tup (pe_ix ix_list (pv 2) (pe_call GD hrD rfl mD FD.kp bD .nil pass0 (pa_cons (pv 0) (pa_cons (pe_callB call_len (by rfl) g.len PySem.boot_len (pa_cons (pv 2) pa_nil)) pa_nil))) (fun _ _ => rfl)) pe_int (fun _ _ => rfl)))) pss_nil)
      (pss_one (ps_expr (pe_bm PySem.F.plainAttrs_list PySem.F.slot_list_append PySem.F.type_list_append mt_append (pv 2) (pa_cons (pe_tup (pa_cons (pv 4) (pa_cons (pe_call GN hrN rfl mN FN.kp bN .nil pass0 (pa_cons (pv 0) pa_nil)) pa_nil))) pa_nil)))))))
      (pss_one (ps_ret (pv 2))))), ?_⟩
    refine ⟨Nat.zero_le _, fun q hq => ?_⟩
    have s1 : Same H (upd H q (.lst [])) := Same.new hq
    have nqp : q ≠ p := hS.new_p hq
    have nqc : q ≠ cc := hS.new_c hq
    refine ⟨_, rfl, _, rfl, _, _, rfl, rfl, p, cc, m + 1, rfl, hS.same s1, by omega, by omega, fun v H1 v0 v1 S1 k1 => ⟨_, rfl, by omega, by omega, ?_⟩⟩
    refine for_range (lo := 0) (n := v.toNat) (fun i σ' H' => ∃ (xs : List V) (ps : List (Str × Int)) (x3 x4 : Option V), σ' = [some (.ref p), some (.int m), some (.ref q), x3, x4] ∧ H' q = some (.lst xs) ∧ PrL H' xs ps ∧ GoodPs ps ∧ ps.length = i ∧ Src H' p cc ∧ Kp p H H')
      ⟨[], [], _, _, rfl, k1 q _ upd_same nqp, .nil, (fun _ h => nomatch h), rfl, S1, (Kp.of s1).trans k1⟩ ?_ ?_
    · rintro i σ' H' hi ⟨xs, ps, x3, x4, rfl, hq', hP, hG, hL, S', kp'⟩
      have hxl : xs.length = ps.length := hP.length
      have tn : ∀ {H2 : Hp}, Kp p H' H2 → PrL H2 xs ps := fun {H2} k2 => hP.mono fun t a b e => k2 t _ e (S'.tup_p e)
      refine ⟨_, rfl, p, cc, rfl, S', fun z H2 hz S2 k2 => ?_⟩
      have hq2 := k2 q _ hq' nqp
      refine ⟨fun σ2 H3 => ∃ (z : Str) (x3 : Option V), σ2 = [some (.ref p), some (.int m), some (.ref q), x3, some (.str z)] ∧ Word z ∧ H3 q = some (.lst xs) ∧ PrL H3 xs ps ∧ Src H3 p cc ∧ Kp p H H3, ?_, ?_⟩
      · refine ⟨_, rfl, _, _, rfl, .inl ⟨_, SqL.of hq2, rfl⟩, _, _, rfl, rfl, _, rfl, ite2 (fun c => ?_) (fun c => ?_)⟩
        · have hpos : 0 < xs.length := by simpa using c
          refine ⟨_, rfl, p, cc, 4, rfl, S2, by decide, by decide, fun v3 H3 b0 b1 S3 k3 => ⟨rfl, _, rfl, ite2 (fun c2 => ?_) (fun c2 => ?_)⟩⟩
          · have hq3 := k3 q _ hq2 nqp
            refine ⟨_, rfl, _, rfl, _, rfl, _, _, rfl, .inl ⟨_, SqL.of hq3, rfl⟩, p, cc, _, rfl, S3, by omega, by omega, fun v4 H4 d0 d1 S4 k4 => ?_⟩
            have hq4 := k4 q _ hq3 nqp
            have hj : v4.toNat < ps.length := by omega
            have hP4 := tn ((k2.trans k3).trans k4)
            obtain ⟨t, et, ht⟩ := hP4.at (List.getElem?_eq_getElem hj)
            refine ⟨q, _, v4, _, rfl, rfl, SqL.of hq4, at_of (z := v4) (j := v4.toNat) (by omega) et, t, _, 0, _, rfl, rfl, SqT.of ht, rfl, ?_⟩
            exact ⟨_, _, rfl, (hG _ (List.getElem_mem hj)).1, hq4, hP4, S4, ((kp'.trans k2).trans k3).trans k4⟩
          · exact ⟨z, _, rfl, hz, k3 q _ hq2 nqp, tn (k2.trans k3), S3, (kp'.trans k2).trans k3⟩
        · exact ⟨z, _, rfl, hz, hq2, tn k2, S2, kp'.trans k2⟩
      · rintro σ2 H3 ⟨z, x3, rfl, hz, hq3, hP3, S3, kp3⟩
        refine ⟨_, rfl, .inl ⟨rfl, _, SqL.of hq3⟩, _, rfl, _, rfl, p, cc, rfl, S3, fun n H4 hn S4 k4 => ⟨by show 2 ≤ sizeLine; decide, fun t ht => ?_⟩⟩
        have hq4 := k4 q _ hq3 nqp
        have ntq : t ≠ q := (ne_of_none hq4 ht).symm
        refine ⟨q, _, _, rfl, rfl, (by rw [upd_ne ntq.symm]; exact hq4), (by show xs.length < sizeLine; exact Nat.lt_of_le_of_lt (show xs.length ≤ 1000 by omega) (by decide)), ?_⟩
        have s5 : Same H4 (upd H4 t (.tup [.str z, .int n])) := Same.new ht
        have kq : ∀ c o, (upd H4 t (.tup [.str z, .int n])) c = some o → c ≠ q → (upd (upd H4 t (.tup [.str z, .int n])) q (.lst (xs ++ [.ref t]))) c = some o := fun c o e n => by rw [upd_ne n]; exact e
        have hP5 : PrL (upd (upd H4 t (.tup [.str z, .int n])) q (.lst (xs ++ [.ref t]))) xs ps := hP3.mono fun c a b e => by
          have cq : c ≠ q := by
            rintro rfl
            rw [e] at hq3
            cases hq3
          exact kq c _ (s5 c _ (k4 c _ e (S3.tup_p e))) cq
        refine ⟨xs ++ [.ref t], ps ++ [(z, n)], _, _, rfl, upd_same, hP5.snoc (kq t _ upd_same ntq), ?_, by rw [List.length_append, hL]; rfl, ?_, ?_⟩
        · intro r hr'
          rcases List.mem_append.mp hr' with e | e
          · exact hG r e
          · rw [List.mem_singleton.mp e]
            exact ⟨hz, hn⟩
        · exact S4.keep fun b o hb e => kq b o (s5 b o e) (by
            rcases hb with rfl | rfl
            · exact nqp.symm
            · exact nqc.symm)
        · intro b o e nb
          exact kq b o (s5 b o (k4 b o (kp3 b o e nb) nb)) (ne_of_none e hq)
    · rintro σ' H' ⟨xs, ps, x3, x4, rfl, hq', hP, hG, hL, S', kp'⟩
      exact ⟨_, rfl, k q H' xs ps hq hq' hP hG (by omega) S' kp'⟩
end
end Cs

set_option Elab.async false
set_option linter.all false
set_option maxRecDepth 100000
set_option maxHeartbeats 4000000
/-! The program's words: is_integer, is_word, is_small, is_pair, distinct. -/
namespace Cs
open PySem L2
/-- a value of a built-in type that is no int -/
def NotInt (K : PySem.W.Frag) (H : Hp) (x : V) : Prop := ∃ ty : String, TyX K H x (.type ty) ∧ (ty = "bool" ∨ kitB ty "int" = some false)
def spIsInteger (K : PySem.W.Frag) : Sp := fun vs H Q _ => (∃ n : Int, vs = [.int n] ∧ Q (.bl true) H) ∨ (∃ x, vs = [x] ∧ NotInt K H x ∧ Q (.bl false) H)
def spIsSmall (K : PySem.W.Frag) : Sp := fun vs H Q _ => (∃ n : Int, vs = [.int n] ∧ Q (.bl (decide (-(10 ^ 30) < n) && decide (n < 10 ^ 30))) H) ∨ (∃ x, vs = [x] ∧ NotInt K H x ∧ Q (.bl false) H)
def spIsWord (K : PySem.W.Frag) : Sp := fun vs H Q _ => (∃ z : Str, vs = [.str z] ∧ z.length ≤ 100000 ∧ ∀ H', Same H H' → Q (.bl (wordB z)) H') ∨ (∃ x ty, vs = [x] ∧ TyX K H x (.type ty) ∧ kitB ty "str" = some false ∧ Q (.bl false) H)
/-- of a good pair -/
def spIsPair (K : PySem.W.Frag) : Sp := fun vs H Q _ => ∃ (t : Addr) (z : Str) (n : Int), vs = [.ref t] ∧ H t = some (.tup [.str z, .int n]) ∧ Word z ∧ Small n ∧ ∀ H', Same H H' → Q (.bl true) H'
def spDistinct (K : PySem.W.Frag) : Sp := fun vs H Q _ => ∃ (a : Addr) (zs : List Str), vs = [.ref a] ∧ SqL K H a (zs.map V.str) ∧ zs.length ≤ 1000 ∧
  ∀ (p : Addr) (H' : Hp) (ws : List Str), H p = none → Same H H' → H' p = some (.lst (ws.map V.str)) → Asc ws → (∀ z, z ∈ ws ↔ z ∈ zs) → ws.length ≤ zs.length → Q (.ref p) H'
theorem wordB_of {z : Str} (h : Word z) : wordB z = true := by
  unfold wordB
  simp only [Bool.and_eq_true, decide_eq_true_eq, List.all_eq_true]
  exact ⟨⟨h.1, h.2.1⟩, h.2.2⟩
theorem kit_int {K : PySem.W.Frag} {H : Hp} {x : V} (h : NotInt K H x) : ∃ ty, TyX K H x (.type ty) ∧ (ty = "bool" ∨ kitB ty "int" = some false) := h
theorem yes_it {σ : L2.St} {H : Hp} {A B : Hp → Prop} (h : A H) : tYes σ H (fun b H3 => if b = true then A H3 else B H3) := iteT (A := A H) (B := B H) h
/-- a set comprehension of texts over a walk -/
theorem scT_it {J : It} {n : Nat} {G : Hp → Prop} {Y : Nat → Hp → V → Hp → Prop} (wk : Walk J n G Y) {w : World} {g : TG} {tt : TT} {te : TE} {vs : List Nat} {σ : L2.St} {H1 : Hp} {D : Addr} {Qd : Hp → Prop} (Pv : Nat → Hp → Prop)
    (h0 : Pv 0 (upd H1 D (TSetO w D []))) (hG : ∀ i H, i ≤ n → Pv i H → G H)
    (hs : ∀ i x H H', i < n → Pv i H → Y i H x H' → g x (wipe σ vs) H' fun σ2 H2 => wipe σ2 vs = wipe σ vs ∧ tt σ2 H2 fun b H3 =>
      if b = true then te σ2 H3 fun y H4 => ∃ (z : Str) (zs : List Str), y = .str z ∧ H4 D = some (TSetO w D zs) ∧ zs.length + 1 < scanBound ∧ Pv (i + 1) (upd H4 D (TSetO w D (addT zs z))) else Pv (i + 1) H3)
    (hd : ∀ H, Pv n H → Qd H) :
    ∃ W : Nat → Nat → Hp → Prop, (∃ m, W 0 m (upd H1 D (TSetO w D []))) ∧ ∀ i m H, W i m H →
      (J.stop i H ∧ Qd H) ∨ (J.go i H ∧ ∃ Nx : Hp → Prop, (∀ H', Nx H' → ∃ m', m' < m ∧ W (i + 1) m' H') ∧ ∀ x H', J.yld i H x H' → g x (wipe σ vs) H' fun σ2 H2 => wipe σ2 vs = wipe σ vs ∧ tt σ2 H2 fun b H3 =>
        if b = true then te σ2 H3 fun y H4 => ∃ (z : Str) (zs : List Str), y = .str z ∧ H4 D = some (TSetO w D zs) ∧ zs.length + 1 < scanBound ∧ Nx (upd H4 D (TSetO w D (addT zs z))) else Nx H3) := by
  refine ⟨fun i m H => m = n - i ∧ i ≤ n ∧ Pv i H, ⟨n, by simp, Nat.zero_le _, h0⟩, ?_⟩
  rintro i m H ⟨rfl, hi, p⟩
  by_cases lt : i < n
  · exact .inr ⟨wk.goes i H lt (hG i H hi p), Pv (i + 1), fun H' r => ⟨n - (i + 1), by omega, rfl, lt, r⟩, fun x H' y => hs i x H H' lt p (wk.yields i H x H' lt (hG i H hi p) y)⟩
  · obtain rfl : i = n := by omega
    exact .inl ⟨wk.stops H (hG i H hi p), hd H p⟩
section
variable {P : Program} {w : World} {K : PySem.W.Frag} {mg : Str → Option Value} {base : Heap}
theorem ok_is_integer {f : Addr} {fd : FuncData} (F : Fun K "is_integer" "is_integer" s_is_integer f fd) (g : Bi mg) : FnOk P w K mg base CX0 1 f fd ["thing"] (spIsInteger K) := by
  refine F.ok sc_is_integer (fun vs H Q E h => ?_) (fun cdv A outer s H vs Q E hr h => ?_)
  · rcases h with ⟨_, rfl, _⟩ | ⟨_, rfl, _⟩ <;> rfl
  · refine ⟨_, (pss_one (ps_ret (pe_and (pe_callB call_isi (by rfl) g.isinstance (by decide +kernel) (pa_cons (pv 0) (pa_cons (pe_bltn (v := .ty "int") (by rfl) g.int (by decide +kernel) rfl) pa_nil))) (pe_one (pe_not (pe_callB call_isi (by rfl) g.isinstance (by decide +kernel) (pa_cons (pv 0) (pa_cons (pe_bltn (v := .ty "bool") (by rfl) g.bool (by decide +kernel) rfl) pa_nil)))))))), ?_⟩
    rcases h with ⟨n, rfl, q⟩ | ⟨x, rfl, ⟨ty, ht, hc⟩, q⟩
    · refine ⟨_, rfl, _, _, _, _, true, rfl, .ty "int", .base (.int n), kit_ty (by decide +kernel), _, rfl, iteT ?_⟩
      exact ⟨_, rfl, _, _, _, _, false, rfl, .ty "bool", .base (.int n), kit_ty (by decide +kernel), _, rfl, q⟩
    · rcases hc with e | e
      · subst e
        refine ⟨_, rfl, _, _, _, _, true, rfl, .ty "int", ht, kit_ty (by decide +kernel), _, rfl, iteT ?_⟩
        exact ⟨_, rfl, _, _, _, _, true, rfl, .ty "bool", ht, kit_ty (by decide +kernel), _, rfl, q⟩
      · exact ⟨_, rfl, _, _, _, _, false, rfl, .ty "int", ht, kit_ty e, _, rfl, iteF q⟩
theorem ok_is_small {f fIi : Addr} {fd fdIi : FuncData} (F : Fun K "is_small" "is_small" s_is_small f fd) (g : Bi mg) (FIi : Def P w K mg base CX0 1 "is_integer" ["thing"] (spIsInteger K) fIi fdIi) : FnOk P w K mg base CX0 2 f fd ["thing"] (spIsSmall K) := by
  obtain ⟨GIi, mIi, _, bIi⟩ := id FIi
  refine F.ok sc_is_small (fun vs H Q E h => ?_) (fun cdv A outer s H vs Q E hr h => ?_)
  · rcases h with ⟨_, rfl, _⟩ | ⟨_, rfl, _⟩ <;> rfl
  · have hrIi : Room 1 _ := hr.mono (by decide)
    refine ⟨_, (pss_one (ps_ret (pe_and (pe_call GIi hrIi rfl mIi FIi.kp bIi .nil pass0 (pa_cons (pv 0) pa_nil)) (pe_one (pe_chain op_lt op_lt (pe_un un_neg (pe_op op_pow pe_int pe_int)) (pv 0) (pe_op op_pow pe_int pe_int)))))), ?_⟩
    rcases h with ⟨n, rfl, q⟩ | ⟨x, rfl, hx, q⟩
    · refine ⟨_, rfl, .inl ⟨n, rfl, _, rfl, iteT ?_⟩⟩
      refine ⟨_, _, rfl, rfl, ⟨by decide, by decide, by decide⟩, _, rfl, _, rfl, _, _, rfl, rfl, _, rfl, ?_⟩
      have e : ((10 : Int) ^ (30 : Int).toNat) = 10 ^ 30 := rfl
      by_cases c : -(10 ^ 30 : Int) < n
      · rw [decide_eq_true (show -((10 : Int) ^ (30 : Int).toNat) < n from c)]
        rw [decide_eq_true c] at q
        exact iteT ⟨_, _, rfl, rfl, ⟨by decide, by decide, by decide⟩, _, _, rfl, rfl, q⟩
      · rw [decide_eq_false (show ¬ -((10 : Int) ^ (30 : Int).toNat) < n from c)]
        rw [decide_eq_false c] at q
        exact iteF q
    · exact ⟨_, rfl, .inr ⟨x, rfl, hx, _, rfl, iteF q⟩⟩
theorem ok_is_word {f : Addr} {fd : FuncData} {tk : Tok} (F : Fun K "is_word" "is_word" s_is_word f fd) (g : Bi mg) (mLET : mg "LETTERS" = some (.str LET tk)) : FnOk P w K mg base CX0 1 f fd ["thing"] (spIsWord K) := by
  refine F.ok sc_is_word (fun vs H Q E h => ?_) (fun cdv A outer s H vs Q E hr h => ?_)
  · rcases h with ⟨_, rfl, _⟩ | ⟨_, _, rfl, _⟩ <;> rfl
  · refine ⟨_, (pss_cons (ps_if (PW.pt (pw_or (pt_not (pt_val (pe_callB call_isi (by rfl) g.isinstance (by decide +kernel) (pa_cons (pv 0) (pa_cons (pe_bltn (v := .ty "str") (by rfl) g.str (by decide +kernel) rfl) pa_nil))))) (pw_or1 (pt_not (pt_chain op_le op_le pe_int (pe_callB call_len (by rfl) g.len PySem.boot_len (pa_cons (pv 0) pa_nil)) pe_int))))) (pss_one (ps_ret pe_bl)) pss_nil)
      (pss_one (ps_ret (pe_callB (cr_all rfl) (by rfl) g.all (by decide +kernel) (pa_cons (pe_lc (own := [("sign", 1)]) (g := gName 1)  (by rfl) sc_is_word.nd (pi_str (pv 0)) (blkOk_by (own := [("sign", 1)]) (N := ["thing", "sign"]) (sc := defScope s_is_word) (by decide +kernel)) (fun _ _ _ _ _ => (pg_name (i := 1) sc_is_word.nd rfl (Or.inl rfl))) (fun _ _ _ _ _ => pts_nil) (fun _ _ _ _ _ => (pe_cmpR op_in_sign (pv 1) (pe_glob (v := .str LET) rfl mLET ⟨_, rfl⟩) (by rfl)))) pa_nil))))), ?_⟩
    rcases h with ⟨z, rfl, hz, q⟩ | ⟨x, ty, rfl, ht, hc, q⟩
    · refine ⟨_, rfl, _, _, _, _, true, rfl, .ty "str", .base (.str z), kit_ty (by decide +kernel), _, rfl, iteF ?_⟩
      have hl : z.length ≤ sizeLine := Nat.le_trans hz (by decide)
      refine ⟨_, rfl, _, _, rfl, ⟨hl, rfl⟩, _, _, rfl, rfl, _, rfl, ?_⟩
      have go : 1 ≤ z.length → z.length ≤ 8 → Q (.bl (wordB z)) H := fun _ _ => q H (Same.refl H)
      by_cases c : (1 : Int) ≤ (z.length : Int)
      · rw [decide_eq_true c]
        refine iteT ⟨_, _, rfl, rfl, _, rfl, ?_⟩
        by_cases d : ((z.length : Nat) : Int) ≤ 8
        · rw [decide_eq_true d]
          refine iteF ?_
          refine ⟨_, rfl, z, rfl, fun D hD => ?_⟩
          refine lc_it walk_str (fun i H' => Same H H' ∧ H' D = some (.lst ((z.cps.toList.take i).map fun c => .bl (decide (c ∈ LET.cps.toList))))) ⟨Same.new hD, upd_same⟩ (fun _ _ _ _ => True.intro) ?_ ?_
          · rintro i x H' H2 hi ⟨s', hD'⟩ ⟨rfl, c, hc, rfl⟩
            have hc' : z.cps.toList[i]? = some c := by rw [Array.getElem?_toList]; exact hc
            refine ⟨rfl, yes_it ?_⟩
            refine ⟨_, rfl, c, LET, rfl, rfl, _, hD', ?_, ?_, ?_⟩
            · rw [List.length_map, List.length_take]
              exact Nat.lt_of_le_of_lt (Nat.min_le_left _ _) (Nat.lt_of_lt_of_le hi hl)
            · exact fun b o e => by rw [upd_ne (ne_of_none e hD)]; exact s' b o e
            · rw [upd_same, List.take_succ, hc', List.map_append]
              rfl
          · rintro H' ⟨s', hD'⟩
            refine ⟨D, (z.cps.toList.map fun c => decide (c ∈ LET.cps.toList)), rfl, SqL.of ?_, ?_⟩
            · rw [hD', List.map_map, List.take_of_length_le (by rw [Array.length_toList]; exact Nat.le_refl _)]
              rfl
            · have e : (z.cps.toList.map fun c => decide (c ∈ LET.cps.toList)).all id = wordB z := by
                unfold wordB
                rw [List.all_map, decide_eq_true (show 1 ≤ z.length by omega), decide_eq_true (show z.length ≤ 8 by omega)]
                rfl
              rw [e]
              exact q H' s'
        · rw [decide_eq_false d]
          refine iteT ?_
          have e : wordB z = false := by
            unfold wordB
            rw [decide_eq_false (show ¬ z.length ≤ 8 by omega)]
            simp
          have := q H (Same.refl H)
          rw [e] at this
          exact this
      · rw [decide_eq_false c]
        refine iteF ⟨_, rfl, iteT ?_⟩
        have e : wordB z = false := by
          unfold wordB
          rw [decide_eq_false (show ¬ 1 ≤ z.length by omega)]
          simp
        have := q H (Same.refl H)
        rw [e] at this
        exact this
    · exact ⟨_, rfl, _, _, _, _, false, rfl, .ty "str", ht, kit_ty hc, _, rfl, iteT q⟩
theorem ok_is_pair {f fIw fIs : Addr} {fd fdIw fdIs : FuncData} (F : Fun K "is_pair" "is_pair" s_is_pair f fd) (g : Bi mg) (FIw : Def P w K mg base CX0 1 "is_word" ["thing"] (spIsWord K) fIw fdIw) (FIs : Def P w K mg base CX0 2 "is_small" ["thing"] (spIsSmall K) fIs fdIs) :
    FnOk P w K mg base CX0 3 f fd ["thing"] (spIsPair K) := by
  obtain ⟨GIw, mIw, _, bIw⟩ := id FIw
  obtain ⟨GIs, mIs, _, bIs⟩ := id FIs
  refine F.ok sc_is_pair (fun vs H Q E h => ?_) (fun cdv A outer s H vs Q E hr h => ?_)
  · obtain ⟨_, _, _, rfl, _⟩ := h
    rfl
  · obtain ⟨t, z, n, rfl, ht, hz, hn, q⟩ := h
    have hrIw : Room 1 _ := hr.mono (by decide)
    have hrIs : Room 2 _ := hr.mono (by decide)
    refine ⟨_, (pss_one (ps_ret (pe_and (pe_callB call_isi (by rfl) g.isinstance (by decide +kernel) (pa_cons (pv 0) (pa_cons (pe_bltn (v := .ty "tuple") (by rfl) g.tuple (by decide +kernel) rfl) pa_nil))) (pe_and (pe_cmpR op_eq (pe_callB call_len (by rfl) g.len PySem.boot_len (pa_cons (pv 0) pa_nil)) pe_int (nomark _)) (pe_and (pe_call GIw hrIw rfl mIw FIw.kp bIw .nil pass0 (pa_cons (pe_ix ix_tup (pv 0) pe_int (fun _ _ => rfl)) pa_nil)) (pe_one (pe_call GIs hrIs rfl mIs FIs.kp bIs .nil pass0 (pa_cons (pe_ix ix_tup (pv 0) pe_int (fun _ _ => rfl)) pa_nil)))))))), ?_⟩
    refine ⟨_, rfl, _, _, _, _, true, rfl, .ty "tuple", .base (.tup ht), kit_ty (by decide +kernel), _, rfl, iteT ?_⟩
    refine ⟨_, rfl, _, _, rfl, .inr ⟨_, SqT.of ht, rfl⟩, rfl, _, rfl, iteT ?_⟩
    refine ⟨_, rfl, t, _, 0, _, rfl, rfl, SqT.of ht, rfl, .inl ⟨z, rfl, Nat.le_trans hz.2.1 (by decide), fun H' s' => ?_⟩⟩
    rw [wordB_of hz]
    refine ⟨_, rfl, iteT ?_⟩
    refine ⟨_, rfl, t, _, 1, _, rfl, rfl, SqT.of (s' _ _ ht), rfl, .inl ⟨n, rfl, ?_⟩⟩
    rw [decide_eq_true hn.1, decide_eq_true hn.2]
    exact q H' s'
theorem ok_distinct {f : Addr} {fd : FuncData} (F : Fun K "distinct" "distinct" s_distinct f fd) (g : Bi mg) : FnOk P w K mg base CX0 1 f fd ["words"] (spDistinct K) := by
  refine F.ok sc_distinct (fun vs H Q E h => ?_) (fun cdv A outer s H vs Q E hr h => ?_)
  · obtain ⟨_, _, rfl, _⟩ := h
    rfl
  · obtain ⟨a, zs, rfl, ha, hl, q⟩ := h
    refine ⟨_, (pss_one (ps_ret (pe_callB (cr_sortT rfl) (by rfl) g.sorted (by decide +kernel) (pa_cons (pe_scT (own := [("word", 1)]) (g := gName 1)  (by rfl) sc_distinct.nd (pi_list (pv 0)) (blkOk_by (own := [("word", 1)]) (N := ["words", "word"]) (sc := defScope s_distinct) (by decide +kernel)) (fun _ _ _ _ _ => (pg_name (i := 1) sc_distinct.nd rfl (Or.inl rfl))) (fun _ _ _ _ _ => pts_nil) (fun _ _ _ _ _ => (pe_callTy SkE.call_str_str (by rfl) g.str (by decide +kernel) (pa_cons (pv 1) pa_nil)))) pa_nil)))), ?_⟩
    refine ⟨_, rfl, a, rfl, ⟨_, ha⟩, fun D hD => ?_⟩
    refine scT_it walk_list (fun i H' => Same H H' ∧ H' D = some (TSetO w D (once (zs.take i)))) ⟨Same.new hD, upd_same⟩ (fun i H' _ h => h.1.seq ha) ?_ ?_
    · rintro i x H' H2 hi ⟨s', hD'⟩ ⟨rfl, hx⟩
      rw [List.length_map] at hi
      have ex : x = V.str zs[i] := by
        rw [List.getElem?_map, List.getElem?_eq_getElem hi] at hx
        exact (Option.some.inj hx).symm
      subst ex
      refine ⟨rfl, yes_it ?_⟩
      refine ⟨_, rfl, _, rfl, zs[i], _, rfl, hD', ?_, ?_, ?_⟩
      · have h1 := once_len (zs.take i)
        rw [List.length_take] at h1
        exact Nat.lt_of_le_of_lt (show (once (zs.take i)).length + 1 ≤ 1001 by omega) (by decide)
      · exact fun b o e => by rw [upd_ne (ne_of_none e hD)]; exact s' b o e
      · rw [upd_same, List.take_succ, List.getElem?_eq_getElem hi]
        show some (TSetO w D (addT (once (zs.take i)) zs[i])) = some (TSetO w D (once (zs.take i ++ [zs[i]])))
        rw [once_snoc]
    · rintro H' ⟨s', hD'⟩
      rw [List.length_map, List.take_length] at hD'
      have h1 := once_len zs
      refine ⟨D, _, rfl, hD', by omega, fun ys p hp hs hn => ?_⟩
      refine q p _ ys (s'.free hn) (s'.trans (Same.new hn)) upd_same (asc_of_sorted hs (hp.nodup_iff.mpr (once_nodup zs))) (fun z => by rw [hp.mem_iff, once_mem]) (by rw [hp.length_eq]; exact h1)
end
end Cs

set_option Elab.async false
set_option linter.all false
set_option maxRecDepth 100000
set_option maxHeartbeats 4000000
/-! Counts.__init__ with pairs and no keywords. -/
namespace Cs
open PySem L2
/-- Counts at p, its dict at d with the table t -/
structure Cnt (C : Addr) (H : Hp) (p d : Addr) (t : Tab) : Prop where
  ob : ∃ dx, H p = some (.ins C dx [("held", .ref d)])
  dc : H d = some (.dK (tv t))
  hd : Held t
  wd : ∀ z ∈ keys t, Word z
theorem put_new {t : Tab} {z : Str} {n : Int} (h : z ∉ keys t) : put t z n = t ++ [(z, n)] := by
  unfold put
  rw [any_keys, if_neg (by simpa using h)]
theorem noZero_take {t : Tab} (nd : (keys t).Nodup) {i : Nat} {q : Str × Int} (h : t[i]? = some q) :
    noZero (t.take (i + 1)) = if q.2 ≠ 0 then put (noZero (t.take i)) q.1 q.2 else noZero (t.take i) := by
  have e : t.take (i + 1) = t.take i ++ [q] := by rw [List.take_succ, h]; rfl
  unfold noZero
  rw [e, List.filter_append]
  by_cases z : q.2 ≠ 0
  · rw [if_pos z, put_new]
    · rw [List.filter_cons, if_pos (decide_eq_true z)]
      rfl
    · intro m
      obtain ⟨r, hr, er⟩ := List.mem_map.mp m
      have h1 : r ∈ t.take i := (List.mem_filter.mp hr).1
      have h2 : (keys (t.take i ++ [q])).Nodup := by
        rw [← e]
        unfold keys
        rw [List.map_take]
        exact nd.sublist (List.take_sublist _ _)
      unfold keys at h2
      rw [List.map_append, List.nodup_append] at h2
      exact h2.2.2 r.1 (List.mem_map.mpr ⟨r, h1, rfl⟩) q.1 (by simp) er
  · rw [if_neg z, List.filter_cons, if_neg (by simpa using z)]
    simp
theorem addUp_keys (z : Str) : ∀ ps, z ∈ keys (addUp ps) → ∃ q ∈ ps, q.1 = z := snoc_rec (fun h => nomatch h) fun l a ih h => by
  rw [addUp_snoc] at h
  rcases mem_keys_put.mp h with m | m
  · obtain ⟨q, hq, e⟩ := ih m
    exact ⟨q, List.mem_append_left _ hq, e⟩
  · exact ⟨a, List.mem_append_right _ (List.mem_singleton.mpr rfl), m.symm⟩
theorem noZero_keys {t : Tab} {z : Str} (h : z ∈ keys (noZero t)) : z ∈ keys t := by
  obtain ⟨q, hq, e⟩ := List.mem_map.mp h
  exact List.mem_map.mpr ⟨q, (noZero_mem.mp hq).1, e⟩
/-- all the words of pairs are words -/
def WdP (ps : List (Str × Int)) : Prop := ∀ q ∈ ps, Word q.1
theorem WdP.held {ps : List (Str × Int)} (h : WdP ps) : ∀ z ∈ keys (noZero (addUp ps)), Word z := fun z m => by
  obtain ⟨q, hq, e⟩ := addUp_keys z ps (noZero_keys m)
  rw [← e]
  exact h q hq
/-- a dict comprehension over a walk -/
theorem dc_it {J : It} {n : Nat} {G : Hp → Prop} {Y : Nat → Hp → V → Hp → Prop} (wk : Walk J n G Y) {g : TG} {tt : TT} {tk tx : TE} {vs : List Nat} {σ : L2.St} {H1 : Hp} {D : Addr} {Qd : Hp → Prop} (Pv : Nat → Hp → Prop)
    (h0 : Pv 0 (upd H1 D (.dK []))) (hG : ∀ i H, i ≤ n → Pv i H → G H)
    (hs : ∀ i x H H', i < n → Pv i H → Y i H x H' → g x (wipe σ vs) H' fun σ2 H2 => wipe σ2 vs = wipe σ vs ∧ tt σ2 H2 fun b H3 =>
      if b = true then tk σ2 H3 fun y H4 => tx σ2 H4 fun z H5 => ∃ kvs k, y = kV k ∧ H5 D = some (.dK kvs) ∧ kvs.length < sizeLine ∧ Pv (i + 1) (upd H5 D (.dK (putK kvs k z))) else Pv (i + 1) H3)
    (hd : ∀ H, Pv n H → Qd H) :
    ∃ W : Nat → Nat → Hp → Prop, (∃ m, W 0 m (upd H1 D (.dK []))) ∧ ∀ i m H, W i m H →
      (J.stop i H ∧ Qd H) ∨ (J.go i H ∧ ∃ Nx : Hp → Prop, (∀ H', Nx H' → ∃ m', m' < m ∧ W (i + 1) m' H') ∧ ∀ x H', J.yld i H x H' → g x (wipe σ vs) H' fun σ2 H2 => wipe σ2 vs = wipe σ vs ∧ tt σ2 H2 fun b H3 =>
        if b = true then tk σ2 H3 fun y H4 => tx σ2 H4 fun z H5 => ∃ kvs k, y = kV k ∧ H5 D = some (.dK kvs) ∧ kvs.length < sizeLine ∧ Nx (upd H5 D (.dK (putK kvs k z))) else Nx H3) := by
  refine ⟨fun i m H => m = n - i ∧ i ≤ n ∧ Pv i H, ⟨n, by simp, Nat.zero_le _, h0⟩, ?_⟩
  rintro i m H ⟨rfl, hi, p⟩
  by_cases lt : i < n
  · exact .inr ⟨wk.goes i H lt (hG i H hi p), Pv (i + 1), fun H' r => ⟨n - (i + 1), by omega, rfl, lt, r⟩, fun x H' y => hs i x H H' lt p (wk.yields i H x H' lt (hG i H hi p) y)⟩
  · obtain rfl : i = n := by omega
    exact .inl ⟨wk.stops H (hG i H hi p), hd H p⟩
theorem val_getD (t : Tab) (z : Str) : ((look t z).map V.int).getD (.int 0) = .int (val t z) := by
  unfold val
  cases look t z <;> rfl
/-- __init__ behind its binding: the pairs a tuple at pt, the keywords an empty dict at dn -/
def spInitB (C : Addr) : Sp := fun vs H Q _ => ∃ (x pt dn dx : Addr) (xs : List V) (ps : List (Str × Int)), vs = [.ref x, .ref pt, .ref dn] ∧ H x = some (.ins C dx []) ∧ H pt = some (.tup xs) ∧ PrL H xs ps ∧ H dn = some (.dK []) ∧ ps.length ≤ 1000 ∧ WdP ps ∧
  ∀ (d : Addr) (H' : Hp), H d = none → Cnt C H' x d (noZero (addUp ps)) → (∀ b o, H b = some o → b ≠ x → H' b = some o) → Q .non H'
section
variable {P : Program} {w : World} {K : PySem.W.Frag} {mg : Str → Option Value} {base : Heap}
theorem init_body {C f : Addr} {cdv : Value} {A : Around} {outer : List Env} {s : Shared} {H : Hp} {vs : List V} {Q : VK} {E : XK} (g : Bi mg) (cl : Cls K C) (nH : NoAttr K C "held")
    (hr : Room 0 (A.deeper (PyProof.Rows.envOfC "Counts.__init__" (defScope s_Counts_init) s.heap.objs.size f cdv))) (h : spInitB C vs H Q E) :
    ∃ t, PSs (cxOf CX0 P w K mg base ["self", "pairs", "numbers", "word", "held", "number"] "Counts.__init__" (defScope s_Counts_init) f cdv A outer s H E).nox (defBody s_Counts_init) t ∧ t { nx := fun _ H' => Q .non H', rt := Q } (L2.start ["self", "pairs", "numbers", "word", "held", "number"] vs) H := by
  obtain ⟨x, pt, dn, dx, xs, ps, rfl, hx, hpt, hP, hdn, hl, hW, k⟩ := h
  have hu := hu_of hr
  refine ⟨_, (pss_cons (ps_lock (ps_for PassesOwn.never rfl (pi_keys (pv 2)) (pg_name (i := 3) sc_Counts_init.nd rfl (Or.inl rfl)) pss_never))
      (pss_cons (ps_set (i := 4) sc_Counts_init.nd rfl (Or.inl rfl) pe_dnewK)
      (pss_cons (ps_for PassesOwn.never rfl (pi_list (pe_op op_cat (pe_callTy call_list_of (by rfl) g.list (by decide +kernel) (pa_cons (pv 1) pa_nil)) (LiI.pe_listItems rfl (pv 2) (by rfl) g.list (by decide +kernel)))) (pg_tup rfl (pgs_cons (pg_name (i := 3) sc_Counts_init.nd rfl (Or.inl rfl)) (pgs_cons (pg_name (i := 5) sc_Counts_init.nd rfl (Or.inl rfl)) pgs_nil))) (pss_one (ps_dput hu (pv 4) (pv 3) (pe_op op_add (pe_dget2 hu (pv 4) (pv 3) pe_int ⟨rfl, rfl, rfl, rfl⟩) (pv 5)) rfl)))
      (pss_one (ps_fld (pv 0) (pe_lock (pe_dc (own := [("word", 3), ("number", 5)]) (g := gTup K 2 (gCons (gName 3) (gCons (gName 5) gNil))) (by rfl) sc_Counts_init.nd (pi_items (pv 4)) (blkOk_by (own := [("word", 3), ("number", 5)]) (N := ["self", "pairs", "numbers", "word", "held", "number"]) (sc := defScope s_Counts_init) (by decide +kernel)) (fun _ _ _ _ _ => (pg_tup rfl (pgs_cons (pg_name (i := 3) sc_Counts_init.nd rfl (Or.inl rfl)) (pgs_cons (pg_name (i := 5) sc_Counts_init.nd rfl (Or.inl rfl)) pgs_nil)))) (fun _ _ _ _ _ => (pts_one (pt_cmpR op_ne (pv 5) pe_int (nomark _)))) (fun _ _ _ _ _ => (pv 3)) (fun _ _ _ _ _ => (pv 5)))) rfl))))), ?_⟩
  have nxd : x ≠ dn := ne_of hx hdn (by intro z; cases z)
  have npd : pt ≠ dn := ne_of hpt hdn (by intro z; cases z)
  have nxp : x ≠ pt := ne_of hx hpt (by intro z; cases z)
  -- for word in numbers: nothing
  refine ⟨dn, _, hdn, trivial, fun od => ?_⟩
  refine ⟨_, rfl, dn, od, rfl, .inl ⟨[], upd_same, ?_⟩⟩
  refine for_it walk_keys (fun i σ' H' => i = 0 ∧ H' = upd H dn (.frz od (.dK [])) ∧ σ' = [some (.ref x), some (.ref pt), some (.ref dn), none, none, none]) ⟨rfl, rfl, rfl⟩ (fun i σ' H' _ h => by rw [h.2.1]; exact upd_same) (fun i x σ' H' H2 hi => absurd hi (Nat.not_lt_zero _)) ?_
  rintro σ' H' ⟨_, rfl, rfl⟩
  refine ⟨upd_same, ?_⟩
  have eH : upd (upd H dn (.frz od (.dK []))) dn (.dK []) = H := by
    funext b
    by_cases e : b = dn
    · rw [e, upd_same, hdn]
    · rw [upd_ne e, upd_ne e]
  rw [eH]
  -- held = {}
  intro e he
  have s1 : Same H (upd H e (.dK [])) := Same.new he
  -- list(pairs) + list(numbers.items())
  refine ⟨_, rfl, pt, _, rfl, .inr (SqT.of (s1 _ _ hpt)), fun l1 hl1 => ?_⟩
  have s2 := s1.trans (Same.new (o := .lst xs) hl1)
  refine ⟨_, rfl, dn, [], rfl, s2 _ _ hdn, fun H3 p3 ts sm hp3 hts hnp hlst hpr => ?_⟩
  cases hpr
  have nel : e ≠ l1 := ne_of_none upd_same hl1
  refine ⟨l1, p3, xs, [], rfl, rfl, sm _ _ upd_same, hlst, ?_, fun l hl4 => ?_⟩
  · rw [hP.length]
    exact Nat.le_trans hl (by decide)
  rw [List.append_nil]
  have s3 : Same H H3 := s2.trans sm
  have s4 : Same H (upd H3 l (.lst xs)) := s3.trans (Same.new hl4)
  have he3 : H3 e = some (.dK []) := sm _ _ (by rw [upd_ne nel]; exact upd_same)
  have nel4 : e ≠ l := ne_of_none he3 hl4
  have hlx : H l = none := s3.free hl4
  refine ⟨l, rfl, ⟨_, SqL.of upd_same⟩, for_list (K := K) (a := l) (xs := xs) (fun i σ' H' => ∃ x3 x5 : Option V, σ' = [some (.ref x), some (.ref pt), some (.ref dn), x3, some (.ref e), x5] ∧ Same H H' ∧ H' l = some (.lst xs) ∧ H' e = some (.dK (tv (addUp (ps.take i)))))
    ⟨_, _, rfl, s4, upd_same, by rw [upd_ne nel4]; exact he3⟩ (fun i σ' H' _ ⟨_, _, _, _, h, _⟩ => SqL.of h) ?_ ?_⟩
  · rintro i y σ' H' hy ⟨x3, x5, rfl, s', hl', he'⟩
    have hi : i < ps.length := by
      have := (List.getElem?_eq_some_iff.mp hy).1
      rw [hP.length] at this
      exact this
    obtain ⟨t, et, ht⟩ := hP.at (List.getElem?_eq_getElem hi)
    rw [et] at hy
    obtain rfl := Option.some.inj hy
    refine ⟨t, _, rfl, SqT.of (s' _ _ ht), rfl, _, _, rfl, _, _, rfl, rfl, ?_⟩
    refine ⟨_, rfl, e, rfl, .inl ⟨_, .inl he'⟩, _, rfl, _, DGet.k (k := Sum.inr ps[i].1) he', _, rfl, val (addUp (ps.take i)) ps[i].1, ps[i].2, (by rw [tv_val]; exact val_getD _ _), rfl, _, rfl, _, rfl, e, _, rfl, DPut.k (k := Sum.inr ps[i].1) he' ?_, ?_⟩
    · rw [tv_len]
      have h1 := addUp_len (ps.take i)
      rw [List.length_take] at h1
      exact Nat.lt_of_le_of_lt (show (addUp (ps.take i)).length ≤ 1000 by omega) (by decide)
    · refine ⟨_, _, rfl, fun b o q => by rw [upd_ne (ne_of_none q he)]; exact s' b o q, by rw [upd_ne (ne_of hl' he' (by intro z; cases z))]; exact hl', ?_⟩
      rw [upd_same, tv_put, List.take_succ, List.getElem?_eq_getElem hi]
      show some (HO.dK (tv (put (addUp (ps.take i)) ps[i].1 (val (addUp (ps.take i)) ps[i].1 + ps[i].2)))) = some (HO.dK (tv (addUp (ps.take i ++ [ps[i]]))))
      rw [addUp_snoc]
  · rintro σ' H5 ⟨x3, x5, rfl, s5, hl5, he5⟩
    rw [hP.length, List.take_length] at he5
    generalize et : addUp ps = t at he5
    have ndt : (keys t).Nodup := by rw [← et]; exact addUp_nd ps
    have lent : t.length ≤ 1000 := by rw [← et]; exact Nat.le_trans (addUp_len ps) hl
    -- self.held = {..}
    refine ⟨e, _, he5, trivial, fun oe => ?_⟩
    refine ⟨_, rfl, e, oe, _, rfl, upd_same, fun D hD => ?_⟩
    have nDe : D ≠ e := (ne_of_none upd_same hD).symm
    have hDH : H5 D = none := by rw [upd_ne nDe] at hD; exact hD
    have xe : x ≠ e := ne_of_none hx he
    refine dc_it walk_items (fun i H' => (∀ b o, H5 b = some o → b ≠ e → H' b = some o) ∧ H' e = some (.frz oe (.dK (tv t))) ∧ H' D = some (.dK (tv (noZero (t.take i))))) ⟨fun b o q n => by rw [upd_ne (ne_of_none q hDH), upd_ne n]; exact q, by rw [upd_ne nDe.symm]; exact upd_same, upd_same⟩
      (fun i H' _ h => h.2.1) ?_ ?_
    · rintro i v H' H2 hi ⟨k1, k2, k3⟩ ⟨T, a, b, rfl, hT, rfl, ha, hb⟩
      rw [tv_len] at hi
      have hi2 : (tv t)[i]? = some (Sum.inr t[i].1, V.int t[i].2) := by
        unfold tv
        rw [List.getElem?_map, List.getElem?_eq_getElem hi]
        rfl
      dsimp only at ha hb
      rw [hi2] at ha hb
      obtain rfl : V.str t[i].1 = a := Option.some.inj ha
      obtain rfl : V.int t[i].2 = b := Option.some.inj hb
      have sT : Same H' (upd H' T (.tup [V.str t[i].1, V.int t[i].2])) := Same.new hT
      refine ⟨T, _, rfl, SqT.of upd_same, rfl, _, _, rfl, _, _, rfl, rfl, rfl, _, rfl, rfl, _, rfl, ?_⟩
      have nz := noZero_take ndt (List.getElem?_eq_getElem hi)
      by_cases z : t[i].2 = 0
      · rw [decide_eq_true (show V.int t[i].2 = V.int 0 by rw [z])]
        rw [if_neg (by simpa using z)] at nz
        refine iteF ?_
        refine ⟨fun c o q n => sT _ _ (k1 c o q n), sT _ _ k2, ?_⟩
        rw [nz]
        exact sT _ _ k3
      · rw [decide_eq_false (show ¬ V.int t[i].2 = V.int 0 from fun q => z (V.int.inj q))]
        rw [if_pos z] at nz
        refine iteT ?_
        refine ⟨_, rfl, _, rfl, _, Sum.inr t[i].1, rfl, sT _ _ k3, ?_, ?_, ?_, ?_⟩
        · rw [tv_len]
          have h1 : (noZero (t.take i)).length ≤ (t.take i).length := List.length_filter_le _ _
          rw [List.length_take] at h1
          exact Nat.lt_of_le_of_lt (show (noZero (t.take i)).length ≤ 1000 by omega) (by decide)
        · intro c o q n
          rw [upd_ne (ne_of_none q hDH)]
          exact sT _ _ (k1 c o q n)
        · rw [upd_ne nDe.symm]
          exact sT _ _ k2
        · rw [upd_same, tv_put, nz]
    · rintro H' ⟨k1, k2, k3⟩
      rw [tv_len, List.take_length] at k3
      refine ⟨k2, _, rfl, x, C, dx, [], rfl, ?_, cl, nH, (by show 0 < 1000; decide), ?_⟩
      · rw [upd_ne xe]
        exact k1 _ _ (s5 _ _ hx) xe
      · have nDx : D ≠ x := (ne_of_none (s5 _ _ hx) hDH).symm
        refine k D _ (s5.free hDH) ⟨⟨dx, upd_same⟩, ?_, Held.of (by rw [et]; exact ndt), hW.held⟩ fun b o q n => ?_
        · rw [upd_ne nDx, upd_ne nDe, et]
          exact k3
        · have be : b ≠ e := ne_of_none q he
          rw [upd_ne n, upd_ne be]
          exact k1 _ _ (s5 _ _ q) be
end
end Cs

set_option Elab.async false
set_option linter.all false
set_option maxRecDepth 100000
set_option maxHeartbeats 4000000
/-! Counts: its methods, by what they hold. -/
namespace Cs
open PySem L2
theorem fnR_of {P : Program} {w : World} {K : PySem.W.Frag} {mg : Str → Option Value} {base : Heap} {CX : CXT} {k : Nat} {f : Addr} {fd : FuncData} {ps : List Str} {sp : Sp} (F : FnOk P w K mg base CX k f fd ps sp) (hb : Binds K fd ps []) : FnR P w K mg base CX k f sp := by
  intro A outer s H us vs Q E hr e0 r h
  have hl : us.length = ps.length := by rw [← r.length]; exact F.len _ _ _ _ h
  have kin : K.In s.heap := e0.mod.kin.keeps fun b o e => (e0.bs b o e).1
  have hb' := hb s us kin (by rw [List.append_nil]; exact hl)
  rw [List.append_nil] at hb'
  exact F.run A outer s H ⟨us, []⟩ us vs Q E hr e0 hb' r h
/-- __init__ called with pairs -/
def spInit (C : Addr) : Sp := fun vs H Q _ => ∃ (x dx : Addr) (xs : List V) (ps : List (Str × Int)), vs = .ref x :: xs ∧ H x = some (.ins C dx []) ∧ PrL H xs ps ∧ ps.length ≤ 1000 ∧ WdP ps ∧
  ∀ (d : Addr) (H' : Hp), H d = none → Cnt C H' x d (noZero (addUp ps)) → (∀ b o, H b = some o → b ≠ x → H' b = some o) → Q .non H'
/-- the class as the top has made it -/
structure CT (P : Program) (w : World) (K : PySem.W.Frag) (mg : Str → Option Value) (base : Heap) (C fI : Addr) : Prop where
  cl : Cls K C
  nH : NoAttr K C "held"
  mgC : mg "Counts" = some (.ref C)
  mke : Mk K C fI
  ini : FnR P w K mg base CX0 1 fI (spInit C)
/-- a method -/
structure MDef (P : Program) (w : World) (K : PySem.W.Frag) (mg : Str → Option Value) (base : Heap) (CX : CXT) (k : Nat) (C : Addr) (m : Str) (ps : List Str) (sp : Sp) (f : Addr) (fd : FuncData) : Prop where
  me : Meth K C m f
  ok : FnOk P w K mg base CX k f fd ps sp
  b : Binds K fd ps []
theorem flds_held (d : Addr) : ([("held", .ref d)] : List (Str × V)).lookup ("held" : Str) = some (.ref d) := by
  rw [List.lookup_cons, beq_self_eq_true]
theorem Cnt.same {C : Addr} {H H' : Hp} {p d : Addr} {t : Tab} (s : Same H H') (h : Cnt C H p d t) : Cnt C H' p d t := by
  obtain ⟨⟨dx, a⟩, b, c, e⟩ := h
  exact ⟨⟨dx, s _ _ a⟩, s _ _ b, c, e⟩
/-- what a method hands out that gives new counts -/
def NewC (C : Addr) (H : Hp) (Q : VK) (F : Str → Int) (n : Nat) : Prop := ∀ (r e : Addr) (H' : Hp) (u : Tab), H r = none → H e = none → Same H H' → Cnt C H' r e u → (∀ z, val u z = F z) → u.length ≤ n → Q (.ref r) H'
def spWords (C : Addr) : Sp := fun vs H Q _ => ∃ (p d : Addr) (t : Tab), vs = [.ref p] ∧ Cnt C H p d t ∧ t.length ≤ 1000 ∧
  ∀ (q : Addr) (H' : Hp) (ws : List Str), H q = none → Same H H' → H' q = some (.lst (ws.map V.str)) → Asc ws → (∀ z, z ∈ ws ↔ z ∈ keys t) → ws.length ≤ t.length → Q (.ref q) H'
def spPairsM (C : Addr) : Sp := fun vs H Q _ => ∃ (p d : Addr) (t : Tab), vs = [.ref p] ∧ Cnt C H p d t ∧ t.length ≤ 1000 ∧
  ∀ (q : Addr) (H' : Hp) (xs : List V) (l : Tab), H q = none → Same H H' → H' q = some (.lst xs) → PrL H' xs l → Told (val t) l → WdP l → l.length ≤ t.length → Q (.ref q) H'
def spCopy (C : Addr) : Sp := fun vs H Q _ => ∃ (p d : Addr) (t : Tab), vs = [.ref p] ∧ Cnt C H p d t ∧ t.length ≤ 1000 ∧ NewC C H Q (val t) t.length
theorem noZero_len (t : Tab) : (noZero t).length ≤ t.length := List.length_filter_le _ _
theorem sumOf_told {f : Str → Int} {l : Tab} (h : Told f l) (z : Str) : sumOf l z = f z := by
  have nd : (keys l).Nodup := h.asc.nodup
  rw [← addUp_val, ]
  have key : ∀ (m : Tab), (keys m).Nodup → ∀ z, sumOf m z = val m z := by
    intro m
    induction m with
    | nil => intro _ z; rfl
    | cons q m ih =>
      intro nd z
      obtain ⟨n1, n2⟩ := List.nodup_cons.mp (show (q.1 :: keys m).Nodup from nd)
      have hz := ih n2 z
      unfold sumOf at hz ⊢
      unfold val look
      rw [List.filter_cons, List.find?_cons]
      by_cases e : q.1 = z
      · rw [if_pos (decide_eq_true e), decide_eq_true e, List.map_cons, List.sum_cons, hz]
        subst e
        unfold val
        rw [look_none n1]
        simp
      · rw [if_neg (by simpa using e), decide_eq_false e, hz]
        rfl
  rw [addUp_val, key l nd]
  unfold val
  by_cases m : z ∈ keys l
  · obtain ⟨n, a, b⟩ := look_some m
    rw [a]
    exact ((h.mem z n).mp b).1
  · rw [look_none m]
    have := mt (h.keys_iff z).mpr m
    have e : f z = 0 := Classical.byContradiction this
    rw [e]
    rfl
section
variable {P : Program} {w : World} {K : PySem.W.Frag} {mg : Str → Option Value} {base : Heap}
theorem ok_init {C f : Addr} {oc od kV doc pm an cdv ct osl} (g : Bi mg) (cl : Cls K C) (nH : NoAttr K C "held")
    (lk : K.lookup f = some ⟨oc, od, .func (PySem.W.fnOf "__init__" "Counts.__init__" (defArgs s_Counts_init) (defBody s_Counts_init) (defScope s_Counts_init) .none kV doc pm an cdv ct), osl⟩) (hcd : PySem.W.codeIn K cdv "Counts.__init__" = true) :
    FnR P w K mg base CX0 1 f (spInit C) := by
  have G := StX.fn_starkw (P := P) (w := w) (mg := mg) (base := base) (CX := CX0) (k := 0) (ps := ["self"]) (pv := "pairs") (pd := "numbers") (sp := spInitB C) lk hcd sc_Counts_init StX.cxUp_none
    (fun us rest hl => match us, rest, hl with | [a], [], _ => rfl | [a], r :: rs, _ => rfl)
    (fun A outer s H vs Q E hr h => by
      obtain ⟨t, a, b⟩ := init_body (P := P) (w := w) (mg := mg) (base := base) (outer := outer) (s := s) g cl nH hr h
      exact ⟨t, a.nox, b⟩)
  refine G.imp fun vs H Q E h => ?_
  obtain ⟨x, dx, xs, ps, rfl, hx, hP, hl, hW, k⟩ := h
  refine ⟨[.ref x], xs, rfl, rfl, by rw [hP.length]; exact Nat.le_trans hl (by decide), fun p d hp hd hne => ?_⟩
  have s1 : Same H (upd H p (.tup xs)) := Same.new hp
  have hd1 : (upd H p (.tup xs)) d = none := by rw [upd_ne hne]; exact hd
  have s2 : Same H (upd (upd H p (.tup xs)) d (.dK [])) := s1.trans (Same.new hd1)
  refine ⟨x, p, d, dx, xs, ps, rfl, s2 _ _ hx, (by rw [upd_ne hne.symm]; exact upd_same), hP.mono (fun t a b e => s2 _ _ e), upd_same, hl, hW, fun e H' he hc kp => ?_⟩
  exact k e H' (s2.free he) hc fun b o q n => kp b o (s2 _ _ q) n
theorem ok_words {C f fDi : Addr} {fd fdDi : FuncData} {fI : Addr} (F : Fun K "words" "Counts.words" s_Counts_words f fd) (g : Bi mg) (T : CT P w K mg base C fI) (FDi : Def P w K mg base CX0 1 "distinct" ["words"] (spDistinct K) fDi fdDi) : FnOk P w K mg base CX0 2 f fd ["self"] (spWords C) := by
  obtain ⟨GDi, mDi, _, bDi⟩ := id FDi
  refine F.ok sc_Counts_words (fun vs H Q E h => ?_) (fun cdv A outer s H vs Q E hr h => ?_)
  · obtain ⟨_, _, _, rfl, _⟩ := h
    rfl
  · obtain ⟨p, d, t, rfl, hc, hl, k⟩ := h
    have hrDi : Room 1 _ := hr.mono (by decide)
    obtain ⟨⟨dx, hp⟩, hd, hh, hw⟩ := id hc
    refine ⟨_, (pss_one (ps_ret (pe_call GDi hrDi rfl mDi FDi.kp bDi .nil pass0 (pa_cons (pe_callTy (call_listD rfl) (by rfl) g.list (by decide +kernel) (pa_cons (pe_fld (pv 0) rfl) pa_nil)) pa_nil)))), ?_⟩
    refine ⟨_, rfl, p, C, dx, _, _, rfl, hp, T.cl, T.nH, flds_held d, d, _, rfl, .inl hd, fun q hq => ?_⟩
    have e : (tv t).map (fun kv => kV kv.1) = (keys t).map V.str := by
      unfold tv keys
      rw [List.map_map, List.map_map]
      rfl
    rw [e]
    have s1 : Same H (upd H q (.lst ((keys t).map V.str))) := Same.new hq
    refine ⟨q, keys t, rfl, SqL.of upd_same, by unfold keys; rw [List.length_map]; exact hl, fun r H' ws hr' s2 h2 ha hm hle => ?_⟩
    exact k r H' ws (s1.free hr') (s1.trans s2) h2 ha hm (by unfold keys at hle; rw [List.length_map] at hle; exact hle)
theorem ok_pairsM {C f fWo : Addr} {fd fdWo : FuncData} {fI : Addr} (F : Fun K "pairs" "Counts.pairs" s_Counts_pairs f fd) (g : Bi mg) (T : CT P w K mg base C fI) (MWo : MDef P w K mg base CX0 2 C "words" ["self"] (spWords C) fWo fdWo) : FnOk P w K mg base CX0 3 f fd ["self"] (spPairsM C) := by
  refine F.ok sc_Counts_pairs (fun vs H Q E h => ?_) (fun cdv A outer s H vs Q E hr h => ?_)
  · obtain ⟨_, _, _, rfl, _⟩ := h
    rfl
  · obtain ⟨p, d, t, rfl, hc, hl, k⟩ := h
    have hrWo : Room 2 _ := hr.mono (by decide)
    have hu := hu_of hr
    obtain ⟨⟨dx, hp⟩, hd, hh, hw⟩ := id hc
    refine ⟨_, (pss_one (ps_ret (pe_lc (own := [("word", 1)]) (g := gName 1) (te := (tTup (tCons _ (tCons (tDGet (tFld K _ "held") _) tNil))))  (by rfl) sc_Counts_pairs.nd (pi_list (pe_meth0 (pv 0) T.cl MWo.me MWo.ok hrWo MWo.b .nil pass0)) (blkOk_by (own := [("word", 1)]) (N := ["self", "word"]) (sc := defScope s_Counts_pairs) (by decide +kernel)) (fun _ _ _ _ _ => (pg_name (i := 1) sc_Counts_pairs.nd rfl (Or.inl rfl))) (fun _ _ _ _ _ => pts_nil) (fun _ _ _ _ _ => (pe_tup (pa_cons (pv 1) (pa_cons (pe_dget hu (pe_fld (pv 0) rfl) (pv 1) (fun _ _ => rfl)) pa_nil))))))), ?_⟩
    refine ⟨_, rfl, p, dx, _, rfl, hp, rfl, p, d, t, rfl, hc, hl, fun q H1 ws hq s1 h1 ha hm hle => ⟨q, rfl, ⟨_, SqL.of h1⟩, fun D hD => ?_⟩⟩
    refine lc_it (walk_list (xs := ws.map V.str)) (fun i H' => Same H1 H' ∧ ∃ xs, H' D = some (.lst xs) ∧ PrL H' xs ((ws.take i).map fun z => (z, val t z))) ⟨Same.new hD, [], upd_same, .nil⟩ (fun i H' _ h => SqL.of (h.1 _ _ h1)) ?_ ?_
    · rintro i x H' H2 hi ⟨s', xs, hD', hP'⟩ ⟨rfl, hx⟩
      rw [List.length_map] at hi
      have ex : x = V.str ws[i] := by
        rw [List.getElem?_map, List.getElem?_eq_getElem hi] at hx
        exact (Option.some.inj hx).symm
      subst ex
      obtain ⟨n, en, _⟩ := look_some ((hm ws[i]).mp (List.getElem_mem hi))
      have ev : val t ws[i] = n := by unfold val; rw [en]; rfl
      have hd' := s' _ _ (s1 _ _ hd)
      have hxl : xs.length = i := by
        rw [hP'.length, List.length_map, List.length_take]
        omega
      refine ⟨rfl, yes_it ?_⟩
      refine ⟨_, rfl, _, rfl, p, C, dx, _, _, rfl, s' _ _ (s1 _ _ hp), T.cl, T.nH, flds_held d, _, rfl, d, .int n, rfl, ?_, by show 2 ≤ sizeLine; decide, fun T2 hT2 => ?_⟩
      · have := DGet.k (k := Sum.inr ws[i]) hd'
        rw [tv_val, en] at this
        exact this
      · have nTD : D ≠ T2 := ne_of_none hD' hT2
        have sT : Same H2 (upd H2 T2 (.tup [.str ws[i], .int n])) := Same.new hT2
        refine ⟨xs, by rw [upd_ne nTD]; exact hD', by rw [hxl]; exact Nat.lt_of_le_of_lt (show i ≤ 1000 by omega) (by decide), fun b o q => ?_, xs ++ [.ref T2], upd_same, ?_⟩
        · rw [upd_ne (ne_of_none q hD)]
          exact sT _ _ (s' _ _ q)
        · rw [List.take_succ, List.getElem?_eq_getElem hi, List.map_append]
          show PrL _ (xs ++ [.ref T2]) (_ ++ [(ws[i], val t ws[i])])
          rw [ev]
          refine PrL.snoc (hP'.mono fun c a b e => ?_) (by rw [upd_ne nTD.symm]; exact upd_same)
          have cD : c ≠ D := by
            rintro rfl
            rw [hD'] at e
            cases e
          rw [upd_ne cD]
          exact sT _ _ e
    · rintro H' ⟨s', xs, hD', hP'⟩
      rw [List.length_map, List.take_length] at hP'
      exact k D H' xs _ (s1.free hD) (s1.trans s') hD' hP' (hh.told ha hm) (fun q m => by
        obtain ⟨z, hz, e⟩ := List.mem_map.mp m
        rw [← e]
        exact hw z ((hm z).mp hz)) (by rw [List.length_map]; exact hle)
end
end Cs

set_option Elab.async false
set_option linter.all false
set_option maxRecDepth 100000
set_option maxHeartbeats 4000000
/-! Counts: of, only, total, len, the store of one word. -/
namespace Cs
open PySem L2
def spOf (K : PySem.W.Frag) (C : Addr) : Sp := fun vs H Q _ => ∃ (a : Addr) (xs : List V) (ps : List (Str × Int)), vs = [.ref C, .ref a] ∧ H a = some (.lst xs) ∧ PrL H xs ps ∧ GoodPs ps ∧ ps.length ≤ 1000 ∧ NewC C H Q (sumOf ps) ps.length
def spTotal (C : Addr) : Sp := fun vs H Q _ => ∃ (p d : Addr) (t : Tab), vs = [.ref p] ∧ Cnt C H p d t ∧ t.length ≤ 1000 ∧ ∀ H', Same H H' → Q (.int (t.map (·.2)).sum) H'
def spLen (C : Addr) : Sp := fun vs H Q _ => ∃ (p d : Addr) (t : Tab), vs = [.ref p] ∧ Cnt C H p d t ∧ Q (.int t.length) H
def spSet (C : Addr) : Sp := fun vs H Q _ => ∃ (p d : Addr) (t : Tab) (z : Str) (n : Int), vs = [.ref p, .str z, .int n] ∧ Word z ∧ Small n ∧ Cnt C H p d t ∧ t.length ≤ 1000 ∧
  ∀ (u : Tab) (H' : Hp), Cnt C H' p d u → (∀ y, val u y = if y = z then n else val t y) → u.length ≤ t.length + 1 → (∀ b o, H b = some o → b ≠ d → H' b = some o) → Q .non H'
def spOnlyB (C : Addr) : Sp := fun vs H Q _ => ∃ (p d wt : Addr) (t : Tab) (zs : List Str), vs = [.ref p, .ref wt] ∧ H wt = some (.tup (zs.map V.str)) ∧ Cnt C H p d t ∧ t.length ≤ 1000 ∧ NewC C H Q (fun z => if z ∈ zs then val t z else 0) t.length
def spOnly (C : Addr) : Sp := fun vs H Q _ => ∃ (p d : Addr) (t : Tab) (zs : List Str), vs = .ref p :: zs.map V.str ∧ zs.length ≤ 1000 ∧ Cnt C H p d t ∧ t.length ≤ 1000 ∧ NewC C H Q (fun z => if z ∈ zs then val t z else 0) t.length
theorem inV_str (z : Str) (zs : List Str) : inV (.str z) (zs.map V.str) = decide (z ∈ zs) := by
  unfold inV
  rw [List.any_map, Bool.eq_iff_iff, List.any_eq_true, decide_eq_true_eq]
  constructor
  · rintro ⟨y, m, e⟩
    have e : (y == z) = true := e
    rw [← eq_of_beq e]
    exact m
  · intro m
    exact ⟨z, m, beq_self_eq_true z⟩
theorem flat_strs (zs : List Str) : (zs.map V.str).all flatV = true := by
  rw [List.all_map, List.all_eq_true]
  intro z _
  rfl
theorem sumOf_filter (l : Tab) (zs : List Str) (z : Str) : sumOf (l.filter fun q => decide (q.1 ∈ zs)) z = if z ∈ zs then sumOf l z else 0 := by
  unfold sumOf
  rw [List.filter_filter]
  by_cases h : z ∈ zs
  · rw [if_pos h]
    congr 2
    apply List.filter_congr
    intro q _
    by_cases e : q.1 = z
    · simp [e, h]
    · simp [e]
  · rw [if_neg h, List.filter_eq_nil_iff.mpr]
    · rfl
    · intro q _ k
      rw [Bool.and_eq_true, decide_eq_true_eq, decide_eq_true_eq] at k
      exact h (k.1 ▸ k.2)
theorem held_put {t : Tab} (h : Held t) {z : Str} {n : Int} (hn : n ≠ 0) : Held (put t z n) := ⟨nd_put h.nd, fun q m => by
  rcases mem_put (y := q.1) (m := q.2) m with ⟨_, e⟩ | ⟨_, e⟩
  · rw [e]
    exact hn
  · exact h.nz _ e⟩
theorem held_drop {t : Tab} (h : Held t) {z : Str} : Held (drop t z) := ⟨nd_drop h.nd, fun q m => h.nz q (List.mem_filter.mp m).1⟩
section
variable {P : Program} {w : World} {K : PySem.W.Frag} {mg : Str → Option Value} {base : Heap}
theorem made {C : Addr} {H : Hp} {x dx : Addr} (hx : H x = none) (hd : H dx = none) : Same H (upd (upd H dx (.own x)) x (.ins C dx [])) := fun b o e => by
  rw [upd_ne (ne_of_none e hx), upd_ne (ne_of_none e hd)]
  exact e
/-- Counts(*pairs) at hand: the pairs stand as a list or tuple -/
theorem mk_pairs {C : Addr} {H1 : Hp} {xs : List V} {l : Tab} {Q : VK} {n : Nat} {G : Str → Int} (hP : PrL H1 xs l) (hw : WdP l) (hl : l.length ≤ 1000) (hn : l.length ≤ n) (hG : ∀ z, sumOf l z = G z) (k : NewC C H1 Q G n) {E : XK} :
    ∀ x dx, H1 x = none → H1 dx = none → dx ≠ x → spInit C (V.ref x :: xs) (upd (upd H1 dx (.own x)) x (.ins C dx [])) (fun v H2 => v = .non ∧ Q (.ref x) H2) E := by
  intro x dx hx hdx ne
  have s2 := made (C := C) hx hdx
  refine ⟨x, dx, xs, l, rfl, upd_same, hP.mono (fun c a b e => s2 _ _ e), hl, hw, fun e H' he hC kp => ⟨rfl, ?_⟩⟩
  have s3 : Same H1 H' := fun b o e => kp b o (s2 _ _ e) (ne_of_none e hx)
  refine k x e H' _ hx (s2.free he) s3 hC (fun z => ?_) (Nat.le_trans (noZero_len _) (Nat.le_trans (addUp_len l) hn))
  rw [noZero_val (addUp_nd l), addUp_val, hG]
theorem NewC.later {C : Addr} {H H1 : Hp} {Q : VK} {G : Str → Int} {n : Nat} (s : Same H H1) (k : NewC C H Q G n) : NewC C H1 Q G n := fun r e H' u hr he s' hc hv hl => k r e H' u (s.free hr) (s.free he) (s.trans s') hc hv hl
theorem ok_of {C f fIp : Addr} {fd fdIp : FuncData} {fI : Addr} (F : Fun K "of" "Counts.of" s_Counts_of f fd) (g : Bi mg) (T : CT P w K mg base C fI) (FIp : Def P w K mg base CX0 3 "is_pair" ["thing"] (spIsPair K) fIp fdIp) : FnOk P w K mg base CX0 4 f fd ["cls", "pairs"] (spOf K C) := by
  obtain ⟨GIp, mIp, _, bIp⟩ := id FIp
  refine F.ok sc_Counts_of (fun vs H Q E h => ?_) (fun cdv A outer s H vs Q E hr h => ?_)
  · obtain ⟨_, _, _, rfl, _⟩ := h
    rfl
  · obtain ⟨a, xs, ps, rfl, ha, hP, hG, hl, k⟩ := h
    have hrIp : Room 3 _ := hr.mono (by decide)
    have hrI : Room 2 _ := hr.mono (by decide)
    refine ⟨_, (pss_cons (ps_if (pt_not (pt_val (pe_callB call_isiT (by rfl) g.isinstance (by decide +kernel) (pa_cons (pv 1) (pa_cons (pe_tup (pa_cons (pe_bltn (v := .ty "list") (by rfl) g.list (by decide +kernel) rfl) (pa_cons (pe_bltn (v := .ty "tuple") (by rfl) g.tuple (by decide +kernel) rfl) pa_nil))) pa_nil))))) (pss_one ps_never) pss_nil)
      (pss_cons (ps_for PassesOwn.never rfl (pi_enum (by rfl) g.enumerate (pa_cons (pv 1) pa_nil)) (pg_tup rfl (pgs_cons (pg_name (i := 2) sc_Counts_of.nd rfl (Or.inl rfl)) (pgs_cons (pg_name (i := 3) sc_Counts_of.nd rfl (Or.inl rfl)) pgs_nil))) (pss_one (ps_if (pt_not (pt_val (pe_call GIp hrIp rfl mIp FIp.kp bIp .nil pass0 (pa_cons (pv 3) pa_nil)))) (pss_one ps_never) pss_nil)))
      (pss_one (ps_ret (pe_mkSL (i := 0) T.mke T.ini hrI rfl (Or.inl rfl) pass0 (pv 1)))))), ?_⟩
    refine ⟨_, rfl, by show 2 ≤ sizeLine; decide, fun tp htp => ?_⟩
    have s1 : Same H (upd H tp (.tup [.ty "list", .ty "tuple"])) := Same.new htp
    refine ⟨_, tp, _, _, _, true, rfl, upd_same, .cons (.ty "list") (.cons (.ty "tuple") .nil), .base (.lst (s1 _ _ ha)), kitAny_cons (b := true) (kit_ty (b := "list") (by decide +kernel)) (fun h => by cases h) (fun _ => rfl), _, rfl, iteF ?_⟩
    refine ⟨_, rfl, a, xs, rfl, SqL.of (s1 _ _ ha), ?_⟩
    refine for_it (walk_enum (xs := xs)) (fun i σ' H' => ∃ x2 x3 : Option V, σ' = [some (.ref C), some (.ref a), x2, x3] ∧ Same H H') ⟨_, _, rfl, s1⟩ (fun i σ' H' _ ⟨_, _, _, h⟩ => SqL.of (h _ _ ha)) ?_ ?_
    · rintro i v σ' H' H2 hi ⟨x2, x3, rfl, s'⟩ ⟨T2, x, y, rfl, hT2, rfl, ex, ey⟩
      obtain rfl : V.int (i : Nat) = x := Option.some.inj ex
      have hi2 : i < ps.length := by rw [← hP.length]; exact hi
      obtain ⟨t, et, ht⟩ := hP.at (List.getElem?_eq_getElem hi2)
      dsimp only at ey
      rw [et] at ey
      obtain rfl := Option.some.inj ey
      have sT : Same H' (upd H' T2 (.tup [.int (i : Nat), .ref t])) := Same.new hT2
      refine ⟨T2, _, rfl, SqT.of upd_same, rfl, _, _, rfl, _, _, rfl, rfl, ?_⟩
      refine ⟨_, rfl, t, _, _, rfl, sT _ _ (s' _ _ ht), (hG _ (List.getElem_mem hi2)).1, (hG _ (List.getElem_mem hi2)).2, fun H3 s3 => ⟨_, rfl, iteF ?_⟩⟩
      exact ⟨_, _, rfl, (s'.trans sT).trans s3⟩
    · rintro σ' H' ⟨x2, x3, rfl, s'⟩
      exact ⟨rfl, _, rfl, a, xs, rfl, .inr (SqL.of (s' _ _ ha)), mk_pairs (hP.mono fun c a b e => s' _ _ e) (fun q m => (hG q m).1) hl (Nat.le_refl _) (fun z => rfl) (k.later s')⟩
theorem ok_len {C f : Addr} {fd : FuncData} {fI : Addr} (F : Fun K "__len__" "Counts.__len__" s_Counts_len f fd) (g : Bi mg) (T : CT P w K mg base C fI) : FnOk P w K mg base CX0 1 f fd ["self"] (spLen C) := by
  refine F.ok sc_Counts_len (fun vs H Q E h => ?_) (fun cdv A outer s H vs Q E hr h => ?_)
  · obtain ⟨_, _, _, rfl, _⟩ := h
    rfl
  · obtain ⟨p, d, t, rfl, hc, k⟩ := h
    obtain ⟨⟨dx, hp⟩, hd, hh, hw⟩ := id hc
    refine ⟨_, (pss_one (ps_ret (pe_callB call_lenD (by rfl) g.len PySem.boot_len (pa_cons (pe_fld (pv 0) rfl) pa_nil)))), ?_⟩
    refine ⟨_, rfl, p, C, dx, _, _, rfl, hp, T.cl, T.nH, flds_held d, d, _, rfl, hd, ?_⟩
    rw [tv_len]
    exact k
theorem ok_set {C f fIw fIs : Addr} {fd fdIw fdIs : FuncData} {fI : Addr} (F : Fun K "__setitem__" "Counts.__setitem__" s_Counts_setitem f fd) (g : Bi mg) (T : CT P w K mg base C fI) (FIw : Def P w K mg base CX0 1 "is_word" ["thing"] (spIsWord K) fIw fdIw) (FIs : Def P w K mg base CX0 2 "is_small" ["thing"] (spIsSmall K) fIs fdIs) :
    FnOk P w K mg base CX0 3 f fd ["self", "word", "number"] (spSet C) := by
  obtain ⟨GIw, mIw, _, bIw⟩ := id FIw
  obtain ⟨GIs, mIs, _, bIs⟩ := id FIs
  refine F.ok sc_Counts_setitem (fun vs H Q E h => ?_) (fun cdv A outer s H vs Q E hr h => ?_)
  · obtain ⟨_, _, _, _, _, rfl, _⟩ := h
    rfl
  · obtain ⟨p, d, t, z, n, rfl, hz, hn, hc, hl, k⟩ := h
    have hrIw : Room 1 _ := hr.mono (by decide)
    have hrIs : Room 2 _ := hr.mono (by decide)
    have hu := hu_of hr
    refine ⟨_, (pss_cons (ps_if (pt_not (pt_val (pe_call GIw hrIw rfl mIw FIw.kp bIw .nil pass0 (pa_cons (pv 1) pa_nil)))) (pss_one ps_never) pss_nil)
      (pss_cons (ps_if (pt_not (pt_val (pe_call GIs hrIs rfl mIs FIs.kp bIs .nil pass0 (pa_cons (pv 2) pa_nil)))) (pss_one ps_never) pss_nil)
      (pss_one (ps_if (pt_cmpR op_ne (pv 2) pe_int (nomark _)) (pss_one (ps_dput hu (pe_fld (pv 0) rfl) (pv 1) (pv 2) rfl)) (pss_one (ps_if (pt_cmp (pc_din hu (pv 1) (pe_fld (pv 0) rfl))) (pss_one (ps_ddel (pe_fld (pv 0) rfl) (pv 1))) pss_nil)))))), ?_⟩
    refine ⟨_, rfl, .inl ⟨z, rfl, Nat.le_trans hz.2.1 (by decide), fun H1 s1 => ?_⟩⟩
    rw [wordB_of hz]
    refine ⟨_, rfl, iteF ?_⟩
    refine ⟨_, rfl, .inl ⟨n, rfl, ?_⟩⟩
    rw [decide_eq_true hn.1, decide_eq_true hn.2]
    refine ⟨_, rfl, iteF ?_⟩
    obtain ⟨⟨dx, hp⟩, hd, hh, hw⟩ := id (hc.same s1)
    have npd : p ≠ d := ne_of hp hd (by intro z; cases z)
    refine ⟨_, rfl, rfl, _, rfl, ?_⟩
    by_cases e : n = 0
    · rw [decide_eq_true (show V.int n = V.int 0 by rw [e])]
      refine iteF ?_
      refine ⟨_, rfl, _, rfl, p, C, dx, _, _, rfl, hp, T.cl, T.nH, flds_held d, d, _, rfl, DGet.k (k := Sum.inr z) hd, _, rfl, ?_⟩
      rw [tv_val]
      cases q : look t z with
      | none =>
        refine iteF ?_
        refine k t H1 (hc.same s1) (fun y => ?_) (Nat.le_succ _) fun b o e _ => s1 b o e
        by_cases ey : y = z
        · rw [if_pos ey, ey, e]
          unfold val
          rw [q]
          rfl
        · rw [if_neg ey]
      | some v =>
        refine iteT ?_
        refine ⟨_, rfl, p, C, dx, _, _, rfl, hp, T.cl, T.nH, flds_held d, _, rfl, d, _, Sum.inr z, rfl, hd, rfl, (by rw [tv_val, q]; rfl), ?_⟩
        rw [tv_drop]
        refine k (drop t z) _ ⟨⟨dx, by rw [upd_ne npd]; exact hp⟩, upd_same, held_drop hh, fun y m => hw y (by rw [keys_drop] at m; exact (List.mem_filter.mp m).1)⟩ (fun y => by rw [val_drop hh.nd, e]) (Nat.le_trans (List.length_filter_le _ _) (Nat.le_succ _)) fun b o e n => ?_
        rw [upd_ne n]
        exact s1 b o e
    · rw [decide_eq_false (show ¬ V.int n = V.int 0 from fun q => e (V.int.inj q))]
      refine iteT ?_
      refine ⟨_, rfl, _, rfl, p, C, dx, _, _, rfl, hp, T.cl, T.nH, flds_held d, _, rfl, d, _, rfl, DPut.k (k := Sum.inr z) hd (by rw [tv_len]; exact Nat.lt_of_le_of_lt hl (by decide)), ?_⟩
      rw [tv_put]
      refine k (put t z n) _ ⟨⟨dx, by rw [upd_ne npd]; exact hp⟩, upd_same, held_put hh e, fun y m => (mem_keys_put.mp m).elim (hw y) (fun q => q ▸ hz)⟩ (fun y => val_put hh.nd) (len_put _ _ _) fun b o e n => ?_
      rw [upd_ne n]
      exact s1 b o e
end
end Cs

set_option Elab.async false
set_option linter.all false
set_option maxRecDepth 100000
set_option maxHeartbeats 4000000
/-! Counts: reading a word, sums, differences, multiples, smaller and greater integers. -/
namespace Cs
open PySem L2
structure Bj (mg : Str → Option Value) : Prop extends Bi mg where
  min : mg "min" = none
  max : mg "max" = none
/-- what isinstance asks of an instance's class -/
structure CI (K : PySem.W.Frag) (C : Addr) : Prop where
  cl : Cls K C
  ha : PySem.W.findIn K (.ref C) "__class__" = some (some (.builtin "object.__class__"))
  hn : PySem.W.specialIn K (.builtin "object.__class__") "__get__" = some (some (.builtin "getset_descriptor.__get__"))
  htk : PySem.W.takesIn K (.builtin "object.__class__") = some true
  hm : PySem.W.mroIn K C (.type "object") = some true
theorem CI.ty {K : PySem.W.Frag} {C : Addr} {H : Hp} {p dx : Addr} {fs : List (Str × V)} (c : CI K C) (h : H p = some (.ins C dx fs)) : TyX K H (.ref p) (.ref C) := .base (.ins h c.cl c.ha c.hn c.htk c.hm)
theorem kit_self {K : PySem.W.Frag} {C : Addr} : PySem.W.kitOne K (.ref C) (.ref C) = some true := by
  unfold PySem.W.kitOne
  rw [if_pos (beq_self_eq_true _)]
/-- operators as their callers have them -/
structure ODef (P : Program) (w : World) (K : PySem.W.Frag) (mg : Str → Option Value) (base : Heap) (CX : CXT) (k : Nat) (C : Addr) (m : Str) (ps : List Str) (sp : Sp) (f : Addr) (fd : FuncData) : Prop where
  c : OpC K C m f
  ok : FnOk P w K mg base CX k f fd ps sp
  b : Binds K fd ps []
structure GDef (P : Program) (w : World) (K : PySem.W.Frag) (mg : Str → Option Value) (base : Heap) (CX : CXT) (k : Nat) (C : Addr) (m : Str) (ps : List Str) (sp : Sp) (f : Addr) (fd : FuncData) : Prop where
  c : Spc K C m f
  fi : PySem.W.fnIn K f = true
  ok : FnOk P w K mg base CX k f fd ps sp
  b : Binds K fd ps []
def spGet (C : Addr) : Sp := fun vs H Q _ => ∃ (p d : Addr) (t : Tab) (z : Str), vs = [.ref p, .str z] ∧ Word z ∧ Cnt C H p d t ∧ ∀ H', Same H H' → Q (.int (val t z)) H'
def spJoint (C : Addr) : Sp := fun vs H Q _ => ∃ (p d q e : Addr) (t u : Tab), vs = [.ref p, .ref q] ∧ Cnt C H p d t ∧ Cnt C H q e u ∧ t.length ≤ 400 ∧ u.length ≤ 400 ∧
  ∀ (l : Addr) (H' : Hp) (ws : List Str), H l = none → Same H H' → H' l = some (.lst (ws.map V.str)) → Asc ws → (∀ z, z ∈ ws ↔ z ∈ keys t ∨ z ∈ keys u) → ws.length ≤ t.length + u.length → Q (.ref l) H'
/-- a op b word by word -/
def spBin (C : Addr) (G : Int → Int → Int) : Sp := fun vs H Q _ => ∃ (p d q e : Addr) (t u : Tab), vs = [.ref p, .ref q] ∧ Cnt C H p d t ∧ Cnt C H q e u ∧ t.length ≤ 400 ∧ u.length ≤ 400 ∧ NewC C H Q (fun z => G (val t z) (val u z)) (t.length + u.length)
def spUn (C : Addr) (G : Int → Int) : Sp := fun vs H Q _ => ∃ (p d : Addr) (t : Tab), vs = [.ref p] ∧ Cnt C H p d t ∧ t.length ≤ 1000 ∧ NewC C H Q (fun z => G (val t z)) t.length
def spMul (C : Addr) : Sp := fun vs H Q _ => ∃ (p d : Addr) (t : Tab) (n : Int), vs = [.ref p, .int n] ∧ Cnt C H p d t ∧ t.length ≤ 1000 ∧ (∀ z, n.natAbs.log2 + (val t z).natAbs.log2 < 1000000) ∧ NewC C H Q (fun z => n * val t z) t.length
/-- [(word, ..) for word in words] -/
theorem lc_pairs {K : PySem.W.Frag} {a : Addr} {ws : List Str} {j : Nat} {te : TE} {vs : List Nat} {σ : L2.St} {H1 : Hp} {D : Addr} {Qd : Hp → Prop} {G : Str → Int} (ha : H1 a = some (.lst (ws.map V.str))) (hD : H1 D = none) (hl : ws.length ≤ 1000)
    (hw : ∀ x, wipe ((wipe σ vs).set j (some x)) vs = wipe σ vs)
    (he : ∀ z ∈ ws, ∀ H', Same H1 H' → ∀ Qe : VK, (∀ T H'', H' T = none → Same H' H'' → H'' T = some (.tup [.str z, .int (G z)]) → Qe (.ref T) H'') → te ((wipe σ vs).set j (some (.str z))) H' Qe)
    (k : ∀ H' xs, Same H1 H' → H' D = some (.lst xs) → PrL H' xs (ws.map fun z => (z, G z)) → Qd H') :
    ∃ W : Nat → Nat → Hp → Prop, (∃ m, W 0 m (upd H1 D (.lst []))) ∧ ∀ i m H, W i m H →
      ((Itl K a).stop i H ∧ Qd H) ∨ ((Itl K a).go i H ∧ ∃ Nx : Hp → Prop, (∀ H', Nx H' → ∃ m', m' < m ∧ W (i + 1) m' H') ∧ ∀ x H', (Itl K a).yld i H x H' → gName j x (wipe σ vs) H' fun σ2 H2 => wipe σ2 vs = wipe σ vs ∧ tYes σ2 H2 fun b H3 =>
        if b = true then te σ2 H3 fun y H4 => ∃ acc, H4 D = some (.lst acc) ∧ acc.length < sizeLine ∧ Nx (upd H4 D (.lst (acc ++ [y]))) else Nx H3) := by
  refine lc_it (walk_list (xs := ws.map V.str)) (fun i H' => Same H1 H' ∧ ∃ xs, H' D = some (.lst xs) ∧ PrL H' xs ((ws.take i).map fun z => (z, G z))) ⟨Same.new hD, [], upd_same, .nil⟩ (fun i H' _ h => SqL.of (h.1 _ _ ha)) ?_ ?_
  · rintro i x H' H2 hi ⟨s', xs, hD', hP'⟩ ⟨rfl, hx⟩
    rw [List.length_map] at hi
    have ex : x = V.str ws[i] := by
      rw [List.getElem?_map, List.getElem?_eq_getElem hi] at hx
      exact (Option.some.inj hx).symm
    subst ex
    have hxl : xs.length = i := by
      rw [hP'.length, List.length_map, List.length_take]
      omega
    refine ⟨hw _, yes_it ?_⟩
    refine he ws[i] (List.getElem_mem hi) H2 s' _ fun T H3 hT s3 hT3 => ?_
    have nTD : D ≠ T := ne_of_none hD' hT
    refine ⟨xs, s3 _ _ hD', by rw [hxl]; exact Nat.lt_of_le_of_lt (show i ≤ 1000 by omega) (by decide), fun b o q => ?_, xs ++ [.ref T], upd_same, ?_⟩
    · rw [upd_ne (ne_of_none q hD)]
      exact s3 _ _ (s' _ _ q)
    · rw [List.take_succ, List.getElem?_eq_getElem hi, List.map_append]
      refine PrL.snoc (hP'.mono fun c a b e => ?_) (by rw [upd_ne nTD.symm]; exact hT3)
      have cD : c ≠ D := by
        rintro rfl
        rw [hD'] at e
        cases e
      rw [upd_ne cD]
      exact s3 _ _ e
  · rintro H' ⟨s', xs, hD', hP'⟩
    rw [List.length_map, List.take_length] at hP'
    exact k H' xs s' hD' hP'
/-- a table by ascending words -/
theorem sumOf_map {ws : List Str} (h : Asc ws) (G : Str → Int) (z : Str) : sumOf (ws.map fun y => (y, G y)) z = if z ∈ ws then G z else 0 := by
  have nd := h.nodup
  clear h
  unfold sumOf
  induction ws with
  | nil => rfl
  | cons y ws ih =>
    obtain ⟨n1, n2⟩ := List.nodup_cons.mp nd
    rw [List.map_cons, List.filter_cons]
    by_cases e : y = z
    · subst e
      rw [if_pos (by simp), List.map_cons, List.sum_cons, ih n2, if_neg n1, if_pos List.mem_cons_self]
      simp
    · rw [if_neg (by simpa using e), ih n2]
      by_cases m : z ∈ ws
      · rw [if_pos m, if_pos (List.mem_cons_of_mem _ m)]
      · rw [if_neg m, if_neg]
        intro q
        rcases List.mem_cons.mp q with q | q
        · exact e q.symm
        · exact m q
theorem sumOf_append (l m : Tab) (z : Str) : sumOf (l ++ m) z = sumOf l z + sumOf m z := by
  unfold sumOf
  rw [List.filter_append, List.map_append, List.sum_append]
theorem val_out {t : Tab} {z : Str} (h : z ∉ keys t) : val t z = 0 := by
  unfold val
  rw [look_none h]
  rfl
theorem PrL.append {H : Hp} : ∀ {xs ys : List V} {l m : Tab}, PrL H xs l → PrL H ys m → PrL H (xs ++ ys) (l ++ m)
  | _, _, _, _, .nil, h => h
  | _, _, _, _, .cons r t, h => .cons r (PrL.append t h)
theorem wd_map {ws : List Str} (h : ∀ z ∈ ws, Word z) (G : Str → Int) : WdP (ws.map fun z => (z, G z)) := fun q m => by
  obtain ⟨z, hz, e⟩ := List.mem_map.mp m
  rw [← e]
  exact h z hz
section
variable {P : Program} {w : World} {K : PySem.W.Frag} {mg : Str → Option Value} {base : Heap}
theorem ok_get {C f fIw : Addr} {fd fdIw : FuncData} {fI : Addr} (F : Fun K "__getitem__" "Counts.__getitem__" s_Counts_getitem f fd) (g : Bi mg) (T : CT P w K mg base C fI) (FIw : Def P w K mg base CX0 1 "is_word" ["thing"] (spIsWord K) fIw fdIw) :
    FnOk P w K mg base CX0 2 f fd ["self", "word"] (spGet C) := by
  obtain ⟨GIw, mIw, _, bIw⟩ := id FIw
  refine F.ok sc_Counts_getitem (fun vs H Q E h => ?_) (fun cdv A outer s H vs Q E hr h => ?_)
  · obtain ⟨_, _, _, _, rfl, _⟩ := h
    rfl
  · obtain ⟨p, d, t, z, rfl, hz, hc, k⟩ := h
    have hrIw : Room 1 _ := hr.mono (by decide)
    have hu := hu_of hr
    refine ⟨_, (pss_cons (ps_if (pt_not (pt_val (pe_call GIw hrIw rfl mIw FIw.kp bIw .nil pass0 (pa_cons (pv 1) pa_nil)))) (pss_one ps_never) pss_nil)
      (pss_one (ps_ret (pe_dget2 hu (pe_fld (pv 0) rfl) (pv 1) pe_int ⟨rfl, rfl, rfl, rfl⟩)))), ?_⟩
    refine ⟨_, rfl, .inl ⟨z, rfl, Nat.le_trans hz.2.1 (by decide), fun H1 s1 => ?_⟩⟩
    rw [wordB_of hz]
    refine ⟨_, rfl, iteF ?_⟩
    obtain ⟨⟨dx, hp⟩, hd, hh, hw⟩ := id (hc.same s1)
    refine ⟨_, rfl, p, C, dx, _, _, rfl, hp, T.cl, T.nH, flds_held d, d, rfl, .inl ⟨_, .inl hd⟩, _, rfl, _, DGet.k (k := Sum.inr z) hd, ?_⟩
    rw [tv_val, val_getD]
    exact k H1 s1
theorem ok_joint {C f fDi fWo : Addr} {fd fdDi fdWo : FuncData} {fI : Addr} (F : Fun K "joint_words" "joint_words" s_joint_words f fd) (g : Bi mg) (T : CT P w K mg base C fI) (FDi : Def P w K mg base CX0 1 "distinct" ["words"] (spDistinct K) fDi fdDi)
    (MWo : MDef P w K mg base CX0 2 C "words" ["self"] (spWords C) fWo fdWo) : FnOk P w K mg base CX0 3 f fd ["one", "other"] (spJoint C) := by
  obtain ⟨GDi, mDi, _, bDi⟩ := id FDi
  refine F.ok sc_joint_words (fun vs H Q E h => ?_) (fun cdv A outer s H vs Q E hr h => ?_)
  · obtain ⟨_, _, _, _, _, _, rfl, _⟩ := h
    rfl
  · obtain ⟨p, d, q, e, t, u, rfl, hc, hc2, hl, hl2, k⟩ := h
    have hrDi : Room 1 _ := hr.mono (by decide)
    have hrWo : Room 2 _ := hr.mono (by decide)
    refine ⟨_, (pss_one (ps_ret (pe_call GDi hrDi rfl mDi FDi.kp bDi .nil pass0 (pa_cons (pe_op op_cat (pe_meth0 (pv 0) T.cl MWo.me MWo.ok hrWo MWo.b .nil pass0) (pe_meth0 (pv 1) T.cl MWo.me MWo.ok hrWo MWo.b .nil pass0)) pa_nil)))), ?_⟩
    obtain ⟨⟨dx, hp⟩, _⟩ := id hc
    refine ⟨_, rfl, p, dx, _, rfl, hp, rfl, p, d, t, rfl, hc, by omega, fun l1 H1 ws1 hl1 s1 h1 ha1 hm1 hle1 => ?_⟩
    obtain ⟨⟨dx2, hq⟩, _⟩ := id (hc2.same s1)
    refine ⟨_, rfl, q, dx2, _, rfl, hq, rfl, q, e, u, rfl, hc2.same s1, by omega, fun l2 H2 ws2 hl2' s2 h2 ha2 hm2 hle2 => ?_⟩
    refine ⟨l1, l2, _, _, rfl, rfl, s2 _ _ h1, h2, ?_, fun l3 hl3 => ?_⟩
    · rw [List.length_map, List.length_map]
      exact Nat.le_trans (show ws1.length + ws2.length ≤ 1000 by omega) (by decide)
    have s3 : Same H2 (upd H2 l3 (.lst (ws1.map V.str ++ ws2.map V.str))) := Same.new hl3
    refine ⟨l3, ws1 ++ ws2, rfl, SqL.of (by rw [upd_same, List.map_append]), by rw [List.length_append]; omega, fun l4 H4 ws hl4 s4 h4 ha hm hle => ?_⟩
    have s13 := (s1.trans s2).trans s3
    refine k l4 H4 ws (s13.free hl4) (s13.trans s4) h4 ha (fun z => ?_) ?_
    · rw [hm, List.mem_append, hm1, hm2]
    · rw [List.length_append] at hle
      omega
theorem ok_add {C f fPa : Addr} {fd fdPa : FuncData} {fI : Addr} (F : Fun K "__add__" "Counts.__add__" s_Counts_add f fd) (g : Bi mg) (T : CT P w K mg base C fI) (ci : CI K C) (MPa : MDef P w K mg base CX0 3 C "pairs" ["self"] (spPairsM C) fPa fdPa) :
    FnOk P w K mg base CX0 4 f fd ["self", "other"] (spBin C fun a b => a + b) := by
  refine F.ok sc_Counts_add (fun vs H Q E h => ?_) (fun cdv A outer s H vs Q E hr h => ?_)
  · obtain ⟨_, _, _, _, _, _, rfl, _⟩ := h
    rfl
  · obtain ⟨p, d, q, e, t, u, rfl, hc, hc2, hl, hl2, k⟩ := h
    have hrPa : Room 3 _ := hr.mono (by decide)
    have hrI : Room 2 _ := hr.mono (by decide)
    refine ⟨_, (pss_cons (ps_if (pt_not (pt_val (pe_callB call_isi (by rfl) g.isinstance (by decide +kernel) (pa_cons (pv 1) (pa_cons (pe_glob (v := .ref C) rfl T.mgC rfl) pa_nil))))) (pss_one (ps_never)) pss_nil)
      (pss_cons (ps_set (i := 2) sc_Counts_add.nd rfl (Or.inl rfl) (pe_op op_cat (pe_meth0 (pv 0) T.cl MPa.me MPa.ok hrPa MPa.b .nil pass0) (pe_meth0 (pv 1) T.cl MPa.me MPa.ok hrPa MPa.b .nil pass0)))
      (pss_one (ps_ret (pe_mkS T.mke T.ini hrI rfl T.mgC pass0 (pv 2)))))), ?_⟩
    obtain ⟨⟨dx, hp⟩, _⟩ := id hc
    obtain ⟨⟨dx2, hq⟩, _⟩ := id hc2
    refine ⟨_, rfl, _, _, _, _, true, rfl, .own C, ci.ty hq, kit_self, _, rfl, iteF ?_⟩
    refine ⟨_, rfl, p, dx, _, rfl, hp, rfl, p, d, t, rfl, hc, by omega, fun l1 H1 xs1 m1 hl1 s1 h1 hP1 ht1 hw1 hle1 => ?_⟩
    obtain ⟨⟨dx3, hq3⟩, _⟩ := id (hc2.same s1)
    refine ⟨_, rfl, q, dx3, _, rfl, hq3, rfl, q, e, u, rfl, hc2.same s1, by omega, fun l2 H2 xs2 m2 hl2' s2 h2 hP2 ht2 hw2 hle2 => ?_⟩
    have hx1 := hP1.length
    have hx2 := hP2.length
    refine ⟨l1, l2, _, _, rfl, rfl, s2 _ _ h1, h2, Nat.le_trans (show xs1.length + xs2.length ≤ 1000 by omega) (by decide), fun l3 hl3 => ?_⟩
    have s3 : Same H2 (upd H2 l3 (.lst (xs1 ++ xs2))) := Same.new hl3
    refine ⟨_, rfl, l3, _, rfl, .inr (SqL.of upd_same), ?_⟩
    have hP : PrL (upd H2 l3 (.lst (xs1 ++ xs2))) (xs1 ++ xs2) (m1 ++ m2) := PrL.append (hP1.mono fun _ _ _ e => s3 _ _ (s2 _ _ e)) (hP2.mono fun _ _ _ e => s3 _ _ e)
    refine mk_pairs hP (fun r mr => (List.mem_append.mp mr).elim (hw1 r) (hw2 r)) (by rw [List.length_append]; omega) (by rw [List.length_append]; omega) (fun z => ?_) (k.later ((s1.trans s2).trans s3))
    rw [sumOf_append, sumOf_told ht1, sumOf_told ht2]
theorem ok_neg {C f fWo : Addr} {fd fdWo : FuncData} {fI : Addr} (F : Fun K "__neg__" "Counts.__neg__" s_Counts_neg f fd) (g : Bi mg) (T : CT P w K mg base C fI) (MWo : MDef P w K mg base CX0 2 C "words" ["self"] (spWords C) fWo fdWo) :
    FnOk P w K mg base CX0 3 f fd ["self"] (spUn C fun a => -a) := by
  refine F.ok sc_Counts_neg (fun vs H Q E h => ?_) (fun cdv A outer s H vs Q E hr h => ?_)
  · obtain ⟨_, _, _, rfl, _⟩ := h
    rfl
  · obtain ⟨p, d, t, rfl, hc, hl, k⟩ := h
    have hrWo : Room 2 _ := hr.mono (by decide)
    have hrI : Room 2 _ := hr.mono (by decide)
    have hu := hu_of hr
    obtain ⟨⟨dx, hp⟩, hd, hh, hw⟩ := id hc
    refine ⟨_, (pss_cons (ps_setLc (i := 1) (own := [("word", 2)]) (g := gName 2) (te := (tTup (tCons _ (tCons (tUn _ (tDGet (tFld K _ "held") _)) tNil))))  (by rfl) sc_Counts_neg.nd rfl rfl (sw_true rfl rfl rfl (by decide +kernel)) (pi_list (pe_meth0 (pv 0) T.cl MWo.me MWo.ok hrWo MWo.b .nil pass0)) (blkOk_by (own := [("word", 2)]) (N := ["self", "pairs", "word"]) (sc := defScope s_Counts_neg) (by decide +kernel)) (fun _ _ _ _ _ => (pg_name (i := 2) sc_Counts_neg.nd rfl (Or.inl rfl))) (fun _ _ _ _ _ => pts_nil) (fun _ _ _ _ _ => (pe_tup (pa_cons (pv 2) (pa_cons (pe_un un_neg (pe_dget hu (pe_fld (pv 0) rfl) (pv 2) (fun _ _ => rfl))) pa_nil)))))
      (pss_one (ps_ret (pe_mkS T.mke T.ini hrI rfl T.mgC pass0 (pv 1))))), ?_⟩
    refine ⟨_, rfl, p, dx, _, rfl, hp, rfl, p, d, t, rfl, hc, hl, fun q H1 ws hq s1 h1 ha hm hle => ⟨q, rfl, ⟨_, SqL.of h1⟩, fun D hD => ?_⟩⟩
    refine lc_pairs (G := fun z => -val t z) h1 hD (by omega) (fun _ => rfl) (fun z hz H' s' Qe q => ?_) fun H' xs s' hD' hP' => ?_
    · obtain ⟨n, en, _⟩ := look_some ((hm z).mp hz)
      have ev : val t z = n := by unfold val; rw [en]; rfl
      have hg : DGet H' d (V.str z) (some (V.int n)) := by
        have := DGet.k (k := Sum.inr z) (s' _ _ (s1 _ _ hd))
        rw [tv_val, en] at this
        exact this
      refine ⟨_, rfl, _, rfl, p, C, dx, _, _, rfl, s' _ _ (s1 _ _ hp), T.cl, T.nH, flds_held d, _, rfl, d, .int n, rfl, hg, _, rfl, by show 2 ≤ sizeLine; decide, fun T2 hT2 => q T2 _ hT2 (Same.new hT2) ?_⟩
      rw [upd_same, ev]
    · refine ⟨_, rfl, D, xs, rfl, .inr (SqL.of hD'), mk_pairs hP' (wd_map (fun z hz => hw z ((hm z).mp hz)) _) (by rw [List.length_map]; omega) (by rw [List.length_map]; exact hle) (fun z => ?_) (k.later (s1.trans s'))⟩
      rw [sumOf_map ha]
      by_cases c : z ∈ ws
      · rw [if_pos c]
      · rw [if_neg c, val_out (mt (hm z).mpr c)]
        rfl
theorem ok_abs {C f fWo : Addr} {fd fdWo : FuncData} {fI : Addr} (F : Fun K "__abs__" "Counts.__abs__" s_Counts_abs f fd) (g : Bi mg) (T : CT P w K mg base C fI) (MWo : MDef P w K mg base CX0 2 C "words" ["self"] (spWords C) fWo fdWo) :
    FnOk P w K mg base CX0 3 f fd ["self"] (spUn C fun a => if a < 0 then -a else a) := by
  refine F.ok sc_Counts_abs (fun vs H Q E h => ?_) (fun cdv A outer s H vs Q E hr h => ?_)
  · obtain ⟨_, _, _, rfl, _⟩ := h
    rfl
  · obtain ⟨p, d, t, rfl, hc, hl, k⟩ := h
    have hrWo : Room 2 _ := hr.mono (by decide)
    have hrI : Room 2 _ := hr.mono (by decide)
    have hu := hu_of hr
    obtain ⟨⟨dx, hp⟩, hd, hh, hw⟩ := id hc
    refine ⟨_, (pss_cons (ps_setLc (i := 1) (own := [("word", 2)]) (g := gName 2) (te := (tTup (tCons _ (tCons (tCB _ (tCons (tDGet (tFld K _ "held") _) tNil)) tNil))))  (by rfl) sc_Counts_abs.nd rfl rfl (sw_true rfl rfl rfl (by decide +kernel)) (pi_list (pe_meth0 (pv 0) T.cl MWo.me MWo.ok hrWo MWo.b .nil pass0)) (blkOk_by (own := [("word", 2)]) (N := ["self", "pairs", "word"]) (sc := defScope s_Counts_abs) (by decide +kernel)) (fun _ _ _ _ _ => (pg_name (i := 2) sc_Counts_abs.nd rfl (Or.inl rfl))) (fun _ _ _ _ _ => pts_nil) (fun _ _ _ _ _ => (pe_tup (pa_cons (pv 2) (pa_cons (pe_callB call_abs (by rfl) g.abs (by decide +kernel) (pa_cons (pe_dget hu (pe_fld (pv 0) rfl) (pv 2) (fun _ _ => rfl)) pa_nil)) pa_nil)))))
      (pss_one (ps_ret (pe_mkS T.mke T.ini hrI rfl T.mgC pass0 (pv 1))))), ?_⟩
    refine ⟨_, rfl, p, dx, _, rfl, hp, rfl, p, d, t, rfl, hc, hl, fun q H1 ws hq s1 h1 ha hm hle => ⟨q, rfl, ⟨_, SqL.of h1⟩, fun D hD => ?_⟩⟩
    refine lc_pairs (G := fun z => if val t z < 0 then -val t z else val t z) h1 hD (by omega) (fun _ => rfl) (fun z hz H' s' Qe q => ?_) fun H' xs s' hD' hP' => ?_
    · obtain ⟨n, en, _⟩ := look_some ((hm z).mp hz)
      have ev : val t z = n := by unfold val; rw [en]; rfl
      have hg : DGet H' d (V.str z) (some (V.int n)) := by
        have := DGet.k (k := Sum.inr z) (s' _ _ (s1 _ _ hd))
        rw [tv_val, en] at this
        exact this
      refine ⟨_, rfl, _, rfl, p, C, dx, _, _, rfl, s' _ _ (s1 _ _ hp), T.cl, T.nH, flds_held d, _, rfl, d, .int n, rfl, hg, _, rfl, by show 2 ≤ sizeLine; decide, fun T2 hT2 => q T2 _ hT2 (Same.new hT2) ?_⟩
      rw [upd_same, ev]
    · refine ⟨_, rfl, D, xs, rfl, .inr (SqL.of hD'), mk_pairs hP' (wd_map (fun z hz => hw z ((hm z).mp hz)) _) (by rw [List.length_map]; omega) (by rw [List.length_map]; exact hle) (fun z => ?_) (k.later (s1.trans s'))⟩
      rw [sumOf_map ha]
      by_cases c : z ∈ ws
      · rw [if_pos c]
      · rw [if_neg c, val_out (mt (hm z).mpr c)]
        rfl
theorem ok_mul {C f fWo : Addr} {fd fdWo : FuncData} {fI : Addr} (F : Fun K "__mul__" "Counts.__mul__" s_Counts_mul f fd) (g : Bi mg) (T : CT P w K mg base C fI) (MWo : MDef P w K mg base CX0 2 C "words" ["self"] (spWords C) fWo fdWo) :
    FnOk P w K mg base CX0 3 f fd ["self", "times"] (spMul C) := by
  refine F.ok sc_Counts_mul (fun vs H Q E h => ?_) (fun cdv A outer s H vs Q E hr h => ?_)
  · obtain ⟨_, _, _, _, rfl, _⟩ := h
    rfl
  · obtain ⟨p, d, t, m, rfl, hc, hl, hb, k⟩ := h
    have hrWo : Room 2 _ := hr.mono (by decide)
    have hrI : Room 2 _ := hr.mono (by decide)
    have hu := hu_of hr
    obtain ⟨⟨dx, hp⟩, hd, hh, hw⟩ := id hc
    refine ⟨_, (pss_cons (ps_if (pt_not (pt_val (pe_callB call_isi (by rfl) g.isinstance (by decide +kernel) (pa_cons (pv 1) (pa_cons (pe_bltn (v := .ty "int") (by rfl) g.int (by decide +kernel) rfl) pa_nil))))) (pss_one (ps_never)) pss_nil)
      (pss_cons (ps_setLc (i := 2) (own := [("word", 3)]) (g := gName 3) (te := (tTup (tCons _ (tCons (tOp _ _ (tDGet (tFld K _ "held") _)) tNil))))  (by rfl) sc_Counts_mul.nd rfl rfl (sw_true rfl rfl rfl (by decide +kernel)) (pi_list (pe_meth0 (pv 0) T.cl MWo.me MWo.ok hrWo MWo.b .nil pass0)) (blkOk_by (own := [("word", 3)]) (N := ["self", "times", "pairs", "word"]) (sc := defScope s_Counts_mul) (by decide +kernel)) (fun _ _ _ _ _ => (pg_name (i := 3) sc_Counts_mul.nd rfl (Or.inl rfl))) (fun _ _ _ _ _ => pts_nil) (fun _ _ _ _ _ => (pe_tup (pa_cons (pv 3) (pa_cons (pe_op op_mulW (pv 1) (pe_dget hu (pe_fld (pv 0) rfl) (pv 3) (fun _ _ => rfl))) pa_nil)))))
      (pss_one (ps_ret (pe_mkS T.mke T.ini hrI rfl T.mgC pass0 (pv 2)))))), ?_⟩
    refine ⟨_, rfl, _, _, _, _, true, rfl, .ty "int", .base (.int m), kit_ty (by decide +kernel), _, rfl, iteF ?_⟩
    refine ⟨_, rfl, p, dx, _, rfl, hp, rfl, p, d, t, rfl, hc, hl, fun q H1 ws hq s1 h1 ha hm hle => ⟨q, rfl, ⟨_, SqL.of h1⟩, fun D hD => ?_⟩⟩
    refine lc_pairs (G := fun z => m * val t z) h1 hD (by omega) (fun _ => rfl) (fun z hz H' s' Qe q => ?_) fun H' xs s' hD' hP' => ?_
    · obtain ⟨n, en, _⟩ := look_some ((hm z).mp hz)
      have ev : val t z = n := by unfold val; rw [en]; rfl
      have hg : DGet H' d (V.str z) (some (V.int n)) := by
        have := DGet.k (k := Sum.inr z) (s' _ _ (s1 _ _ hd))
        rw [tv_val, en] at this
        exact this
      have hbz := hb z
      rw [ev] at hbz
      refine ⟨_, rfl, _, rfl, _, rfl, p, C, dx, _, _, rfl, s' _ _ (s1 _ _ hp), T.cl, T.nH, flds_held d, _, rfl, d, .int n, rfl, hg, _, _, rfl, rfl, hbz, by show 2 ≤ sizeLine; decide, fun T2 hT2 => q T2 _ hT2 (Same.new hT2) ?_⟩
      rw [upd_same, ev]
    · refine ⟨_, rfl, D, xs, rfl, .inr (SqL.of hD'), mk_pairs hP' (wd_map (fun z hz => hw z ((hm z).mp hz)) _) (by rw [List.length_map]; omega) (by rw [List.length_map]; exact hle) (fun z => ?_) (k.later (s1.trans s'))⟩
      rw [sumOf_map ha]
      by_cases c : z ∈ ws
      · rw [if_pos c]
      · rw [if_neg c, val_out (mt (hm z).mpr c), Int.mul_zero]
end
end Cs

set_option Elab.async false
set_option linter.all false
set_option maxRecDepth 100000
set_option maxHeartbeats 4000000
/-! The laws' common helpers: the model, what is told of it, whether counts are equal to it. -/
namespace Cs
open PySem L2
/-- a model at m: a dict of words and integers -/
structure Mdl (H : Hp) (m : Addr) (u : Tab) : Prop where
  dc : H m = some (.dK (tv u))
  nd : (keys u).Nodup
  wd : ∀ z ∈ keys u, Word z
theorem Mdl.same {H H' : Hp} {m : Addr} {u : Tab} (s : Same H H') (h : Mdl H m u) : Mdl H' m u := ⟨s _ _ h.dc, h.nd, h.wd⟩
def spModel : Sp := fun vs H Q _ => ∃ (a : Addr) (xs : List V) (ps : List (Str × Int)), vs = [.ref a] ∧ H a = some (.lst xs) ∧ PrL H xs ps ∧ WdP ps ∧ ps.length ≤ 1000 ∧
  ∀ (m : Addr) (H' : Hp), H m = none → Same H H' → Mdl H' m (addUp ps) → Q (.ref m) H'
def spTold : Sp := fun vs H Q _ => ∃ (m : Addr) (u : Tab), vs = [.ref m] ∧ Mdl H m u ∧ u.length < 64 ∧
  ∀ (q : Addr) (H' : Hp) (xs : List V) (l : Tab), H q = none → Same H H' → H' q = some (.lst xs) → PrL H' xs l → Told (val u) l → WdP l → l.length ≤ u.length → Q (.ref q) H'
def spEqual (C : Addr) : Sp := fun vs H Q _ => ∃ (p d m : Addr) (t u : Tab), vs = [.ref p, .ref m] ∧ Cnt C H p d t ∧ t.length ≤ 1000 ∧ Mdl H m u ∧ u.length < 64 ∧ (∀ z, val t z = val u z) ∧ ∀ H', Same H H' → Q (.bl true) H'
/-- pairs as data -/
def pd (l : Tab) : PyData := .list (l.map fun q => .tuple [.str q.1, .int q.2])
theorem word_ok {z : Str} (h : Word z) : PyData.strOk z = true := by
  unfold PyData.strOk
  rw [← Array.all_toList, List.all_eq_true]
  intro c hc
  have h1 := h.2.2 c hc
  have h2 : ∀ c ∈ LET.cps.toList, c < 0x110000 := by decide +kernel
  exact decide_eq_true (h2 c h1)
theorem pd_can : ∀ {l : Tab}, WdP l → PyData.canLayAll0 (l.map fun q => .tuple [.str q.1, .int q.2]) = true
  | [], _ => rfl
  | q :: l, h => by
    rw [List.map_cons, PyData.canLayAll0, pd_can fun r m => h r (List.mem_cons_of_mem _ m)]
    have := word_ok (h q List.mem_cons_self)
    simp [PyData.canLay0, PyData.canLayAll0, this]
theorem pd_depth : ∀ l : Tab, PyData.depthAll (l.map fun q => .tuple [.str q.1, .int q.2]) ≤ 1
  | [] => Nat.zero_le _
  | q :: l => by
    rw [List.map_cons, PyData.depthAll]
    have := pd_depth l
    simp only [PyData.depth, PyData.depthAll]
    omega
theorem pd_shaped {l : Tab} (h : WdP l) : SeqAt.shaped (pd l) = true := by
  unfold SeqAt.shaped pd
  rw [Bool.and_eq_true]
  refine ⟨by rw [PyData.canLay0]; exact pd_can h, decide_eq_true ?_⟩
  rw [PyData.depth]
  have := pd_depth l
  omega
theorem pd_refl {l : Tab} (h : WdP l) : PyData.eqv (pd l) (pd l) = true := SeqAt.eqv_refl _ (SeqAt.canLay_of_shaped (pd_shaped h))
theorem PrL.dp {K : PySem.W.Frag} {H : Hp} : ∀ {xs : List V} {l : Tab}, PrL H xs l → DpAll K H xs (l.map fun q => .tuple [.str q.1, .int q.2])
  | _, _, .nil => .nil
  | _, _, .cons ⟨t, e, ht⟩ r => .cons (by rw [e]; exact .tup (SqT.of ht) (.cons (.str _) (.cons (.int _) .nil))) (PrL.dp r)
section
variable {P : Program} {w : World} {K : PySem.W.Frag} {mg : Str → Option Value} {base : Heap}
theorem ok_model {f : Addr} {fd : FuncData} (F : Fun K "_law_model" "_law_model" s_l_model f fd) (g : Bi mg) : FnOk P w K mg base CX0 1 f fd ["_law_pairs_here"] spModel := by
  refine F.ok sc_l_model (fun vs H Q E h => ?_) (fun cdv A outer s H vs Q E hr h => ?_)
  · obtain ⟨_, _, _, rfl, _⟩ := h
    rfl
  · obtain ⟨a, xs, ps, rfl, ha, hP, hW, hl, k⟩ := h
    have hu := hu_of hr
    refine ⟨_, (pss_cons (ps_set (i := 1) sc_l_model.nd rfl (Or.inl rfl) pe_dnewK)
      (pss_cons (ps_for PassesOwn.never rfl (pi_list (pv 0)) (pg_tup rfl (pgs_cons (pg_name (i := 2) sc_l_model.nd rfl (Or.inl rfl)) (pgs_cons (pg_name (i := 3) sc_l_model.nd rfl (Or.inl rfl)) pgs_nil))) (pss_one (ps_dput hu (pv 1) (pv 2) (pe_op op_add (pe_dget2 hu (pv 1) (pv 2) pe_int ⟨rfl, rfl, rfl, rfl⟩) (pv 3)) rfl)))
      (pss_one (ps_ret (pv 1))))), ?_⟩
    intro e he
    have s1 : Same H (upd H e (.dK [])) := Same.new he
    refine ⟨_, rfl, a, rfl, ⟨_, SqL.of (s1 _ _ ha)⟩, for_list (K := K) (a := a) (xs := xs) (fun i σ' H' => ∃ x2 x3 : Option V, σ' = [some (.ref a), some (.ref e), x2, x3] ∧ Same H H' ∧ H' e = some (.dK (tv (addUp (ps.take i)))))
      ⟨_, _, rfl, s1, upd_same⟩ (fun i σ' H' _ ⟨_, _, _, h, _⟩ => SqL.of (h _ _ ha)) ?_ ?_⟩
    · rintro i y σ' H' hy ⟨x2, x3, rfl, s', he'⟩
      have hi : i < ps.length := by
        have := (List.getElem?_eq_some_iff.mp hy).1
        rw [hP.length] at this
        exact this
      obtain ⟨t, et, ht⟩ := hP.at (List.getElem?_eq_getElem hi)
      rw [et] at hy
      obtain rfl := Option.some.inj hy
      refine ⟨t, _, rfl, SqT.of (s' _ _ ht), rfl, _, _, rfl, _, _, rfl, rfl, ?_⟩
      refine ⟨_, rfl, e, rfl, .inl ⟨_, .inl he'⟩, _, rfl, _, DGet.k (k := Sum.inr ps[i].1) he', _, rfl, val (addUp (ps.take i)) ps[i].1, ps[i].2, (by rw [tv_val]; exact val_getD _ _), rfl, _, rfl, _, rfl, e, _, rfl, DPut.k (k := Sum.inr ps[i].1) he' ?_, ?_⟩
      · rw [tv_len]
        have h1 := addUp_len (ps.take i)
        rw [List.length_take] at h1
        exact Nat.lt_of_le_of_lt (show (addUp (ps.take i)).length ≤ 1000 by omega) (by decide)
      · refine ⟨_, _, rfl, fun b o q => by rw [upd_ne (ne_of_none q he)]; exact s' b o q, ?_⟩
        rw [upd_same, tv_put, List.take_succ, List.getElem?_eq_getElem hi]
        show some (HO.dK (tv (put (addUp (ps.take i)) ps[i].1 (val (addUp (ps.take i)) ps[i].1 + ps[i].2)))) = some (HO.dK (tv (addUp (ps.take i ++ [ps[i]]))))
        rw [addUp_snoc]
    · rintro σ' H' ⟨x2, x3, rfl, s', he'⟩
      rw [hP.length, List.take_length] at he'
      refine ⟨_, rfl, k e H' he s' ⟨he', addUp_nd ps, fun z m => ?_⟩⟩
      obtain ⟨q, hq, eq⟩ := addUp_keys z ps m
      rw [← eq]
      exact hW q hq
theorem ok_told {f : Addr} {fd : FuncData} (F : Fun K "_law_told" "_law_told" s_l_told f fd) (g : Bi mg) : FnOk P w K mg base CX0 1 f fd ["_law_model_here"] spTold := by
  refine F.ok sc_l_told (fun vs H Q E h => ?_) (fun cdv A outer s H vs Q E hr h => ?_)
  · obtain ⟨_, _, rfl, _⟩ := h
    rfl
  · obtain ⟨m, u, rfl, hm, hl, k⟩ := h
    have hu := hu_of hr
    refine ⟨_, (pss_cons (ps_set (i := 1) sc_l_told.nd rfl (Or.inl rfl) (pe_callB cr_sortedS (by rfl) g.sorted (by decide +kernel) (pa_cons (pe_lock (pe_lc (own := [("_law_word_here", 2)]) (g := gName 2)  (by rfl) sc_l_told.nd (pi_keys (pv 0)) (blkOk_by (own := [("_law_word_here", 2)]) (N := ["_law_model_here", "_law_words", "_law_word_here"]) (sc := defScope s_l_told) (by decide +kernel)) (fun _ _ _ _ _ => (pg_name (i := 2) sc_l_told.nd rfl (Or.inl rfl))) (fun _ _ _ _ _ => pts_nil) (fun _ _ _ _ _ => (pe_callTy SkE.call_str_str (by rfl) g.str (by decide +kernel) (pa_cons (pv 2) pa_nil))))) pa_nil)))
      (pss_one (ps_ret (pe_lc (own := [("_law_word_here", 2)]) (g := gName 2)  (by rfl) sc_l_told.nd (pi_list (pv 1)) (blkOk_by (own := [("_law_word_here", 2)]) (N := ["_law_model_here", "_law_words", "_law_word_here"]) (sc := defScope s_l_told) (by decide +kernel)) (fun _ _ _ _ _ => (pg_name (i := 2) sc_l_told.nd rfl (Or.inl rfl))) (fun _ _ _ _ _ => (pts_one (pt_cmpR op_ne (pe_dget hu (pv 0) (pv 2) (fun _ _ => rfl)) pe_int (nomark _)))) (fun _ _ _ _ _ => (pe_tup (pa_cons (pv 2) (pa_cons (pe_dget hu (pv 0) (pv 2) (fun _ _ => rfl)) pa_nil)))))))), ?_⟩
    refine ⟨m, _, hm.dc, trivial, fun od => ?_⟩
    refine ⟨_, rfl, m, od, rfl, .inl ⟨_, upd_same, fun D hD => ?_⟩⟩
    have nDm : D ≠ m := (ne_of_none upd_same hD).symm
    have hDH : H D = none := by rw [upd_ne nDm] at hD; exact hD
    refine lc_it walk_keys (fun i H' => (∀ b o, H b = some o → b ≠ m → H' b = some o) ∧ H' m = some (.frz od (.dK (tv u))) ∧ H' D = some (.lst (((keys u).take i).map V.str))) ⟨fun b o e n => by rw [upd_ne (ne_of_none e hDH), upd_ne n]; exact e, by rw [upd_ne nDm.symm]; exact upd_same, upd_same⟩ (fun i H' _ h => h.2.1) ?_ ?_
    · rintro i v H' H2 hi ⟨k1, k2, k3⟩ ⟨rfl, kk, vv, hv, ev⟩
      rw [tv_len] at hi
      have hi2 : (tv u)[i]? = some (Sum.inr u[i].1, V.int u[i].2) := by
        unfold tv
        rw [List.getElem?_map, List.getElem?_eq_getElem hi]
        rfl
      rw [hi2] at hv
      obtain rfl : Sum.inr u[i].1 = kk := congrArg Prod.fst (Option.some.inj hv)
      obtain rfl : v = V.str u[i].1 := ev
      refine ⟨rfl, yes_it ?_⟩
      refine ⟨_, rfl, _, rfl, _, k3, ?_, fun b o e n => ?_, ?_, ?_⟩
      · rw [List.length_map, List.length_take]
        exact Nat.lt_of_le_of_lt (show min i (keys u).length ≤ 1000 by omega) (by decide)
      · rw [upd_ne (ne_of_none e hDH)]
        exact k1 b o e n
      · rw [upd_ne nDm.symm]
        exact k2
      · have : (keys u)[i]? = some u[i].1 := by
          unfold keys
          rw [List.getElem?_map, List.getElem?_eq_getElem hi]
          rfl
        rw [upd_same, List.take_succ, this, List.map_append]
        rfl
    · rintro H' ⟨k1, k2, k3⟩
      have hkl : (keys u).length = u.length := List.length_map _
      rw [tv_len, ← hkl, List.take_length] at k3
      refine ⟨k2, D, keys u, rfl, SqL.of (by rw [upd_ne nDm]; exact k3), by omega, fun ws q hp hs hq => ?_⟩
      have s1 : Same H (upd H' m (.dK (tv u))) := fun b o e => by
        by_cases n : b = m
        · subst n
          rw [upd_same, ← e, hm.dc]
        · rw [upd_ne n]
          exact k1 b o e n
      generalize upd H' m (.dK (tv u)) = H1 at s1 hq
      have s2 : Same H1 (upd H1 q (.lst (ws.map V.str))) := Same.new hq
      have hqn : H q = none := s1.free hq
      have s3 := s1.trans s2
      have h3 : (upd H1 q (.lst (ws.map V.str))) q = some (.lst (ws.map V.str)) := upd_same
      generalize upd H1 q (.lst (ws.map V.str)) = H3 at s3 h3
      have ha : Asc ws := asc_of_sorted hs (hp.nodup_iff.mpr hm.nd)
      have hmm : ∀ z, z ∈ ws ↔ z ∈ keys u := fun z => hp.mem_iff
      have hwl : ws.length = u.length := by rw [hp.length_eq, hkl]
      have hm3 := hm.same s3
      -- the second comprehension
      refine ⟨_, rfl, q, rfl, ⟨_, SqL.of h3⟩, fun D2 hD2 => ?_⟩
      refine lc_it (walk_list (xs := ws.map V.str)) (fun i H' => Same H3 H' ∧ ∃ xs, H' D2 = some (.lst xs) ∧ PrL H' xs (toldBy u (ws.take i))) ⟨Same.new hD2, [], upd_same, .nil⟩ (fun i H' _ h => SqL.of (h.1 _ _ h3)) ?_ ?_
      · rintro i x H' H2 hi ⟨s', xs, hD', hP'⟩ ⟨rfl, hx⟩
        rw [List.length_map] at hi
        have ex : x = V.str ws[i] := by
          rw [List.getElem?_map, List.getElem?_eq_getElem hi] at hx
          exact (Option.some.inj hx).symm
        subst ex
        obtain ⟨n, en, _⟩ := look_some ((hmm ws[i]).mp (List.getElem_mem hi))
        have ev : val u ws[i] = n := by unfold val; rw [en]; rfl
        have hd' := s' _ _ hm3.dc
        have hg : DGet H2 m (V.str ws[i]) (some (V.int n)) := by
          have := DGet.k (k := Sum.inr ws[i]) hd'
          rw [tv_val, en] at this
          exact this
        have et : toldBy u (ws.take (i + 1)) = toldBy u (ws.take i) ++ (if n ≠ 0 then [(ws[i], n)] else []) := by
          unfold toldBy
          rw [List.take_succ, List.getElem?_eq_getElem hi, List.filter_append, List.map_append]
          congr 1
          show List.map _ (List.filter _ [ws[i]]) = _
          rw [List.filter_cons, ev]
          by_cases c : n ≠ 0
          · rw [if_pos (decide_eq_true c), if_pos c]
            show [(ws[i], val u ws[i])] = _
            rw [ev]
          · rw [if_neg (by simpa using c), if_neg c]
            rfl
        have hxl : xs.length ≤ i := by
          rw [hP'.length]
          unfold toldBy
          rw [List.length_map]
          refine Nat.le_trans (List.length_filter_le _ _) ?_
          rw [List.length_take]
          omega
        refine ⟨rfl, _, rfl, _, rfl, m, _, rfl, hg, rfl, _, rfl, ?_⟩
        by_cases c : n = 0
        · rw [decide_eq_true (show V.int n = V.int 0 by rw [c])]
          rw [if_neg (by simpa using c), List.append_nil] at et
          refine iteF ?_
          rw [et]
          exact ⟨s', xs, hD', hP'⟩
        · rw [decide_eq_false (show ¬ V.int n = V.int 0 from fun q => c (V.int.inj q))]
          rw [if_pos c] at et
          refine iteT ?_
          refine ⟨_, rfl, _, rfl, _, rfl, m, _, rfl, hg, by show 2 ≤ sizeLine; decide, fun T2 hT2 => ?_⟩
          have nTD : D2 ≠ T2 := ne_of_none hD' hT2
          have sT : Same H2 (upd H2 T2 (.tup [.str ws[i], .int n])) := Same.new hT2
          refine ⟨xs, by rw [upd_ne nTD]; exact hD', Nat.lt_of_le_of_lt (show xs.length ≤ 1000 by omega) (by decide), fun b o q => ?_, xs ++ [.ref T2], upd_same, ?_⟩
          · rw [upd_ne (ne_of_none q hD2)]
            exact sT _ _ (s' _ _ q)
          · rw [et]
            refine PrL.snoc (hP'.mono fun c a b e => ?_) (by rw [upd_ne nTD.symm]; exact upd_same)
            have cD : c ≠ D2 := by
              rintro rfl
              rw [hD'] at e
              cases e
            rw [upd_ne cD]
            exact sT _ _ e
      · rintro H' ⟨s', xs, hD', hP'⟩
        rw [List.length_map, List.take_length] at hP'
        refine k D2 H' xs _ (s3.free hD2) (s3.trans s') hD' hP' (told_of hm.nd ha hmm) (fun r mr => ?_) ?_
        · obtain ⟨z, hz, e⟩ := List.mem_map.mp mr
          rw [← e]
          exact hm.wd z ((hmm z).mp (List.mem_filter.mp hz).1)
        · unfold toldBy
          rw [List.length_map, ← hwl]
          exact List.length_filter_le _ _
theorem ok_lint {f : Addr} {fd : FuncData} (F : Fun K "_law_is_integer" "_law_is_integer" s_l_is_integer f fd) (g : Bi mg) : FnOk P w K mg base CX0 1 f fd ["_law_thing"] (spIsInteger K) := by
  refine F.ok sc_l_is_integer (fun vs H Q E h => ?_) (fun cdv A outer s H vs Q E hr h => ?_)
  · rcases h with ⟨_, rfl, _⟩ | ⟨_, rfl, _⟩ <;> rfl
  · refine ⟨_, (pss_one (ps_ret (pe_and (pe_callB call_isi (by rfl) g.isinstance (by decide +kernel) (pa_cons (pv 0) (pa_cons (pe_bltn (v := .ty "int") (by rfl) g.int (by decide +kernel) rfl) pa_nil))) (pe_one (pe_not (pe_callB call_isi (by rfl) g.isinstance (by decide +kernel) (pa_cons (pv 0) (pa_cons (pe_bltn (v := .ty "bool") (by rfl) g.bool (by decide +kernel) rfl) pa_nil)))))))), ?_⟩
    rcases h with ⟨n, rfl, q⟩ | ⟨x, rfl, ⟨ty, ht, hc⟩, q⟩
    · refine ⟨_, rfl, _, _, _, _, true, rfl, .ty "int", .base (.int n), kit_ty (by decide +kernel), _, rfl, iteT ?_⟩
      exact ⟨_, rfl, _, _, _, _, false, rfl, .ty "bool", .base (.int n), kit_ty (by decide +kernel), _, rfl, q⟩
    · rcases hc with e | e
      · subst e
        refine ⟨_, rfl, _, _, _, _, true, rfl, .ty "int", ht, kit_ty (by decide +kernel), _, rfl, iteT ?_⟩
        exact ⟨_, rfl, _, _, _, _, true, rfl, .ty "bool", ht, kit_ty (by decide +kernel), _, rfl, q⟩
      · exact ⟨_, rfl, _, _, _, _, false, rfl, .ty "int", ht, kit_ty e, _, rfl, iteF q⟩
theorem ok_equal {C f fPa fTo fLi : Addr} {fd fdPa fdTo fdLi : FuncData} {fI : Addr} (F : Fun K "_law_equal" "_law_equal" s_l_equal f fd) (g : Bi mg) (T : CT P w K mg base C fI) (MPa : MDef P w K mg base CX0 3 C "pairs" ["self"] (spPairsM C) fPa fdPa)
    (FTo : Def P w K mg base CX0 1 "_law_told" ["_law_model_here"] spTold fTo fdTo) (FLi : Def P w K mg base CX0 1 "_law_is_integer" ["_law_thing"] (spIsInteger K) fLi fdLi) :
    FnOk P w K mg base CX0 4 f fd ["_law_counts", "_law_model_here"] (spEqual C) := by
  obtain ⟨GTo, mTo, _, bTo⟩ := id FTo
  obtain ⟨GLi, mLi, _, bLi⟩ := id FLi
  refine F.ok sc_l_equal (fun vs H Q E h => ?_) (fun cdv A outer s H vs Q E hr h => ?_)
  · obtain ⟨_, _, _, _, _, rfl, _⟩ := h
    rfl
  · obtain ⟨p, d, m, t, u, rfl, hc, hl, hm, hlu, hv, k⟩ := h
    have hrPa : Room 3 _ := hr.mono (by decide)
    have hrTo : Room 1 _ := hr.mono (by decide)
    have hrLi : Room 1 _ := hr.mono (by decide)
    obtain ⟨⟨dx, hp⟩, hd, hh, hw⟩ := id hc
    refine ⟨_, (pss_cons (ps_set (i := 2) sc_l_equal.nd rfl (Or.inl rfl) (pe_meth0 (pv 0) T.cl MPa.me MPa.ok hrPa MPa.b .nil pass0))
      (pss_cons (ps_if (PW.pt (pw_or (pt_not (pt_val (pe_callB call_isi (by rfl) g.isinstance (by decide +kernel) (pa_cons (pv 2) (pa_cons (pe_bltn (v := .ty "list") (by rfl) g.list (by decide +kernel) rfl) pa_nil))))) (pw_or1 (pt_cmpR (op_neD hr.units) (pv 2) (pe_call GTo hrTo rfl mTo FTo.kp bTo .nil pass0 (pa_cons (pv 1) pa_nil)) (nomark _))))) (pss_one (ps_ret pe_bl)) pss_nil)
      (pss_cons (ps_for PassesOwn.never rfl (pi_list (pv 2)) (pg_name (i := 3) sc_l_equal.nd rfl (Or.inl rfl)) (pss_one (ps_if (PW.pt (pw_or (pt_not (pt_val (pe_callB call_isi (by rfl) g.isinstance (by decide +kernel) (pa_cons (pv 3) (pa_cons (pe_bltn (v := .ty "tuple") (by rfl) g.tuple (by decide +kernel) rfl) pa_nil))))) (pw_or1 (pt_not (pt_val (pe_call GLi hrLi rfl mLi FLi.kp bLi .nil pass0 (pa_cons (pe_ix ix_tup (pv 3) pe_int (fun _ _ => rfl)) pa_nil))))))) (pss_one (ps_ret pe_bl)) pss_nil)))
      (pss_one (ps_ret pe_bl))))), ?_⟩
    refine ⟨_, rfl, p, dx, _, rfl, hp, rfl, p, d, t, rfl, hc, hl, fun q H1 xs l hq s1 h1 hP ht hwl hle => ?_⟩
    refine ⟨_, rfl, _, _, _, _, true, rfl, .ty "list", .base (.lst h1), kit_ty (by decide +kernel), _, rfl, iteF ?_⟩
    refine ⟨_, rfl, _, rfl, m, u, rfl, hm.same s1, hlu, fun q2 H2 xs2 l2 hq2 s2 h2 hP2 ht2 hwl2 hle2 => ?_⟩
    obtain rfl : l = l2 := told_eq ht ht2 hv
    have hP' : PrL H2 xs l := hP.mono fun c a b e => s2 _ _ e
    refine ⟨pd l, pd l, .lst (SqL.of (s2 _ _ h1)) hP'.dp, .lst (SqL.of h2) hP2.dp, pd_shaped hwl, pd_shaped hwl, _, rfl, ?_⟩
    rw [pd_refl hwl]
    refine iteF ?_
    refine ⟨_, rfl, q, rfl, ⟨_, SqL.of (s2 _ _ h1)⟩, for_list (K := K) (a := q) (xs := xs) (fun i σ' H' => ∃ x3 : Option V, σ' = [some (.ref p), some (.ref m), some (.ref q), x3] ∧ Same H2 H') ⟨_, rfl, Same.refl _⟩ (fun i σ' H' _ ⟨_, _, h⟩ => SqL.of (h _ _ (s2 _ _ h1))) ?_ ?_⟩
    · rintro i y σ' H' hy ⟨x3, rfl, s'⟩
      have hi : i < l.length := by
        have := (List.getElem?_eq_some_iff.mp hy).1
        rw [hP.length] at this
        exact this
      obtain ⟨t2, et, ht3⟩ := hP'.at (List.getElem?_eq_getElem hi)
      rw [et] at hy
      obtain rfl := Option.some.inj hy
      have ht4 := s' _ _ ht3
      refine ⟨_, rfl, _, _, _, _, true, rfl, .ty "tuple", .base (.tup ht4), kit_ty (by decide +kernel), _, rfl, iteF ?_⟩
      refine ⟨_, rfl, t2, _, 1, _, rfl, rfl, SqT.of ht4, rfl, .inl ⟨_, rfl, _, rfl, iteF ?_⟩⟩
      exact ⟨_, rfl, s'⟩
    · rintro σ' H' ⟨x3, rfl, s'⟩
      exact k H' ((s1.trans s2).trans s')
end
end Cs

set_option Elab.async false
set_option linter.all false
set_option maxRecDepth 100000
set_option maxHeartbeats 4000000
/-! Counts: differences, smaller and greater integers, distances, multiples from the left, changes in place. -/
namespace Cs
open PySem L2
structure TDef (P : Program) (w : World) (K : PySem.W.Frag) (mg : Str → Option Value) (base : Heap) (CX : CXT) (k : Nat) (C : Addr) (nm : String) (ps : List Str) (sp : Sp) (f h : Addr) (fd : FuncData) : Prop where
  c : OpT K C nm f h
  i1 : PySem.W.findIn K (.type "int") (PySem.dunder nm) = some (some (.builtin "int.__mul__"))
  i2 : PySem.W.findIn K (.type "int") (dunderR nm) = some (some (.builtin "int.__rmul__"))
  ok : FnOk P w K mg base CX k f fd ps sp
  b : Binds K fd ps []
/-- a op= b: the object itself is changed; its dict is a new one -/
def spIn (C : Addr) (G : Int → Int → Int) : Sp := fun vs H Q _ => ∃ (p d q e : Addr) (t u : Tab), vs = [.ref p, .ref q] ∧ Cnt C H p d t ∧ Cnt C H q e u ∧ t.length ≤ 400 ∧ u.length ≤ 400 ∧
  ∀ (d' : Addr) (H' : Hp) (v : Tab), H d' = none → Cnt C H' p d' v → (∀ z, val v z = G (val t z) (val u z)) → v.length ≤ t.length + u.length → (∀ b o, H b = some o → b ≠ p → H' b = some o) → Q (.ref p) H'
def spImul (C : Addr) : Sp := fun vs H Q _ => ∃ (p d : Addr) (t : Tab) (n : Int), vs = [.ref p, .int n] ∧ Cnt C H p d t ∧ t.length ≤ 1000 ∧ (∀ z, n.natAbs.log2 + (val t z).natAbs.log2 < 1000000) ∧
  ∀ (d' : Addr) (H' : Hp) (v : Tab), H d' = none → Cnt C H' p d' v → (∀ z, val v z = n * val t z) → v.length ≤ t.length → (∀ b o, H b = some o → b ≠ p → H' b = some o) → Q (.ref p) H'
theorem putF_held (d e : Addr) : putF "held" (V.ref e) ([("held", .ref d)] : List (Str × V)) = ([("held", .ref e)] : List (Str × V)) := by
  show (if ("held" : Str) = "held" then ([("held", V.ref e)] : List (Str × V)) else _) = ([("held", V.ref e)] : List (Str × V))
  rw [if_pos rfl]
section
variable {P : Program} {w : World} {K : PySem.W.Frag} {mg : Str → Option Value} {base : Heap}
theorem ok_sub {C f fGe fJw : Addr} {fd fdGe fdJw : FuncData} {fI : Addr} (F : Fun K "__sub__" "Counts.__sub__" s_Counts_sub f fd) (g : Bj mg) (T : CT P w K mg base C fI) (ci : CI K C) (SGe : GDef P w K mg base CX0 2 C "__getitem__" ["self", "word"] (spGet C) fGe fdGe)
    (FJw : Def P w K mg base CX0 3 "joint_words" ["one", "other"] (spJoint C) fJw fdJw) : FnOk P w K mg base CX0 4 f fd ["self", "other"] (spBin C fun a b => a - b) := by
  obtain ⟨GJw, mJw, _, bJw⟩ := id FJw
  refine F.ok sc_Counts_sub (fun vs H Q E h => ?_) (fun cdv A outer s H vs Q E hr h => ?_)
  · obtain ⟨_, _, _, _, _, _, rfl, _⟩ := h
    rfl
  · obtain ⟨p, d, q, e, t, u, rfl, hc, hc2, hl, hl2, k⟩ := h
    have hrJw : Room 3 _ := hr.mono (by decide)
    have hrGe : Room 3 _ := hr.mono (by decide)
    have hrI : Room 2 _ := hr.mono (by decide)
    refine ⟨_, (pss_cons (ps_if (pt_not (pt_val (pe_callB call_isi (by rfl) g.isinstance (by decide +kernel) (pa_cons (pv 1) (pa_cons (pe_glob (v := .ref C) rfl T.mgC rfl) pa_nil))))) (pss_one (ps_never)) pss_nil)
      (pss_cons (ps_setLc (i := 2) (own := [("word", 3)]) (g := gName 3)  (by rfl) sc_Counts_sub.nd rfl rfl (sw_true rfl rfl rfl (by decide +kernel)) (pi_list (pe_call GJw hrJw rfl mJw FJw.kp bJw .nil pass0 (pa_cons (pv 0) (pa_cons (pv 1) pa_nil)))) (blkOk_by (own := [("word", 3)]) (N := ["self", "other", "pairs", "word"]) (sc := defScope s_Counts_sub) (by decide +kernel)) (fun _ _ _ _ _ => (pg_name (i := 3) sc_Counts_sub.nd rfl (Or.inl rfl))) (fun _ _ _ _ _ => pts_nil) (fun _ _ _ _ _ => (pe_tup (pa_cons (pv 3) (pa_cons (pe_op op_sub (pe_ixO SGe.c SGe.fi SGe.ok hrGe SGe.b pass0 (pv 0) (pv 3)) (pe_ixO SGe.c SGe.fi SGe.ok hrGe SGe.b pass0 (pv 1) (pv 3))) pa_nil)))))
      (pss_one (ps_ret (pe_mkS T.mke T.ini hrI rfl T.mgC pass0 (pv 2)))))), ?_⟩
    obtain ⟨⟨dx, hp⟩, _⟩ := id hc
    obtain ⟨⟨dx2, hq⟩, _⟩ := id hc2
    refine ⟨_, rfl, _, _, _, _, true, rfl, .own C, ci.ty hq, kit_self, _, rfl, iteF ?_⟩
    refine ⟨_, rfl, _, rfl, p, d, q, e, t, u, rfl, hc, hc2, hl, hl2, fun l H1 ws hl' s1 h1 ha hm hle => ⟨l, rfl, ⟨_, SqL.of h1⟩, fun D hD => ?_⟩⟩
    have hww : ∀ z ∈ ws, Word z := fun z hz => ((hm z).mp hz).elim (hc.wd z) (hc2.wd z)
    refine lc_pairs (G := fun z => val t z - val u z) h1 hD (by omega) (fun _ => rfl) (fun z hz H' s' Qe qk => ?_) fun H' xs s' hD' hP' => ?_
    · have hcA := (hc.same s1).same s'
      obtain ⟨⟨dxA, hpA⟩, _⟩ := id hcA
      refine ⟨_, rfl, _, rfl, _, rfl, p, dxA, _, rfl, hpA, p, d, t, z, rfl, hww z hz, hcA, fun H2 s2 => ?_⟩
      have hcB := ((hc2.same s1).same s').same s2
      obtain ⟨⟨dxB, hqB⟩, _⟩ := id hcB
      refine ⟨_, rfl, _, rfl, q, dxB, _, rfl, hqB, q, e, u, z, rfl, hww z hz, hcB, fun H3 s3 => ⟨_, _, rfl, rfl, ?_⟩⟩
      
      exact ⟨by show 2 ≤ sizeLine; decide, fun T2 hT2 => qk T2 _ ((s2.trans s3).free hT2) ((s2.trans s3).trans (Same.new hT2)) upd_same⟩
    · refine ⟨_, rfl, D, xs, rfl, .inr (SqL.of hD'), mk_pairs hP' (wd_map hww _) (by rw [List.length_map]; omega) (by rw [List.length_map]; exact hle) (fun z => ?_) (k.later (s1.trans s'))⟩
      rw [sumOf_map ha]
      by_cases c : z ∈ ws
      · rw [if_pos c]
      · have c1 : ¬ (z ∈ keys t ∨ z ∈ keys u) := mt (hm z).mpr c
        rw [if_neg c, val_out (fun m => c1 (.inl m)), val_out (fun m => c1 (.inr m))]
        rfl
theorem ok_and {C f fGe fJw : Addr} {fd fdGe fdJw : FuncData} {fI : Addr} (F : Fun K "__and__" "Counts.__and__" s_Counts_and f fd) (g : Bj mg) (T : CT P w K mg base C fI) (ci : CI K C) (SGe : GDef P w K mg base CX0 2 C "__getitem__" ["self", "word"] (spGet C) fGe fdGe)
    (FJw : Def P w K mg base CX0 3 "joint_words" ["one", "other"] (spJoint C) fJw fdJw) : FnOk P w K mg base CX0 4 f fd ["self", "other"] (spBin C fun a b => if b < a then b else a) := by
  obtain ⟨GJw, mJw, _, bJw⟩ := id FJw
  refine F.ok sc_Counts_and (fun vs H Q E h => ?_) (fun cdv A outer s H vs Q E hr h => ?_)
  · obtain ⟨_, _, _, _, _, _, rfl, _⟩ := h
    rfl
  · obtain ⟨p, d, q, e, t, u, rfl, hc, hc2, hl, hl2, k⟩ := h
    have hrJw : Room 3 _ := hr.mono (by decide)
    have hrGe : Room 3 _ := hr.mono (by decide)
    have hrI : Room 2 _ := hr.mono (by decide)
    refine ⟨_, (pss_cons (ps_if (pt_not (pt_val (pe_callB call_isi (by rfl) g.isinstance (by decide +kernel) (pa_cons (pv 1) (pa_cons (pe_glob (v := .ref C) rfl T.mgC rfl) pa_nil))))) (pss_one (ps_never)) pss_nil)
      (pss_cons (ps_setLc (i := 2) (own := [("word", 3)]) (g := gName 3)  (by rfl) sc_Counts_and.nd rfl rfl (sw_true rfl rfl rfl (by decide +kernel)) (pi_list (pe_call GJw hrJw rfl mJw FJw.kp bJw .nil pass0 (pa_cons (pv 0) (pa_cons (pv 1) pa_nil)))) (blkOk_by (own := [("word", 3)]) (N := ["self", "other", "pairs", "word"]) (sc := defScope s_Counts_and) (by decide +kernel)) (fun _ _ _ _ _ => (pg_name (i := 3) sc_Counts_and.nd rfl (Or.inl rfl))) (fun _ _ _ _ _ => pts_nil) (fun _ _ _ _ _ => (pe_tup (pa_cons (pv 3) (pa_cons (pe_callB (call_min2 rfl) (by rfl) g.min (by decide +kernel) (pa_cons (pe_callTy call_int1 (by rfl) g.int (by decide +kernel) (pa_cons (pe_ixO SGe.c SGe.fi SGe.ok hrGe SGe.b pass0 (pv 0) (pv 3)) pa_nil)) (pa_cons (pe_callTy call_int1 (by rfl) g.int (by decide +kernel) (pa_cons (pe_ixO SGe.c SGe.fi SGe.ok hrGe SGe.b pass0 (pv 1) (pv 3)) pa_nil)) pa_nil))) pa_nil)))))
      (pss_one (ps_ret (pe_mkS T.mke T.ini hrI rfl T.mgC pass0 (pv 2)))))), ?_⟩
    obtain ⟨⟨dx, hp⟩, _⟩ := id hc
    obtain ⟨⟨dx2, hq⟩, _⟩ := id hc2
    refine ⟨_, rfl, _, _, _, _, true, rfl, .own C, ci.ty hq, kit_self, _, rfl, iteF ?_⟩
    refine ⟨_, rfl, _, rfl, p, d, q, e, t, u, rfl, hc, hc2, hl, hl2, fun l H1 ws hl' s1 h1 ha hm hle => ⟨l, rfl, ⟨_, SqL.of h1⟩, fun D hD => ?_⟩⟩
    have hww : ∀ z ∈ ws, Word z := fun z hz => ((hm z).mp hz).elim (hc.wd z) (hc2.wd z)
    refine lc_pairs (G := fun z => if val u z < val t z then val u z else val t z) h1 hD (by omega) (fun _ => rfl) (fun z hz H' s' Qe qk => ?_) fun H' xs s' hD' hP' => ?_
    · have hcA := (hc.same s1).same s'
      obtain ⟨⟨dxA, hpA⟩, _⟩ := id hcA
      refine ⟨_, rfl, _, rfl, _, rfl, p, dxA, _, rfl, hpA, p, d, t, z, rfl, hww z hz, hcA, fun H2 s2 => ?_⟩
      have hcB := ((hc2.same s1).same s').same s2
      obtain ⟨⟨dxB, hqB⟩, _⟩ := id hcB
      refine Or.inl ⟨_, rfl, _, rfl, _, rfl, q, dxB, _, rfl, hqB, q, e, u, z, rfl, hww z hz, hcB, fun H3 s3 => Or.inl ⟨_, rfl, _, _, rfl, ?_⟩⟩
      
      exact ⟨by show 2 ≤ sizeLine; decide, fun T2 hT2 => qk T2 _ ((s2.trans s3).free hT2) ((s2.trans s3).trans (Same.new hT2)) upd_same⟩
    · refine ⟨_, rfl, D, xs, rfl, .inr (SqL.of hD'), mk_pairs hP' (wd_map hww _) (by rw [List.length_map]; omega) (by rw [List.length_map]; exact hle) (fun z => ?_) (k.later (s1.trans s'))⟩
      rw [sumOf_map ha]
      by_cases c : z ∈ ws
      · rw [if_pos c]
      · have c1 : ¬ (z ∈ keys t ∨ z ∈ keys u) := mt (hm z).mpr c
        rw [if_neg c, val_out (fun m => c1 (.inl m)), val_out (fun m => c1 (.inr m))]
        rfl
theorem ok_or {C f fGe fJw : Addr} {fd fdGe fdJw : FuncData} {fI : Addr} (F : Fun K "__or__" "Counts.__or__" s_Counts_or f fd) (g : Bj mg) (T : CT P w K mg base C fI) (ci : CI K C) (SGe : GDef P w K mg base CX0 2 C "__getitem__" ["self", "word"] (spGet C) fGe fdGe)
    (FJw : Def P w K mg base CX0 3 "joint_words" ["one", "other"] (spJoint C) fJw fdJw) : FnOk P w K mg base CX0 4 f fd ["self", "other"] (spBin C fun a b => if b > a then b else a) := by
  obtain ⟨GJw, mJw, _, bJw⟩ := id FJw
  refine F.ok sc_Counts_or (fun vs H Q E h => ?_) (fun cdv A outer s H vs Q E hr h => ?_)
  · obtain ⟨_, _, _, _, _, _, rfl, _⟩ := h
    rfl
  · obtain ⟨p, d, q, e, t, u, rfl, hc, hc2, hl, hl2, k⟩ := h
    have hrJw : Room 3 _ := hr.mono (by decide)
    have hrGe : Room 3 _ := hr.mono (by decide)
    have hrI : Room 2 _ := hr.mono (by decide)
    refine ⟨_, (pss_cons (ps_if (pt_not (pt_val (pe_callB call_isi (by rfl) g.isinstance (by decide +kernel) (pa_cons (pv 1) (pa_cons (pe_glob (v := .ref C) rfl T.mgC rfl) pa_nil))))) (pss_one (ps_never)) pss_nil)
      (pss_cons (ps_setLc (i := 2) (own := [("word", 3)]) (g := gName 3)  (by rfl) sc_Counts_or.nd rfl rfl (sw_true rfl rfl rfl (by decide +kernel)) (pi_list (pe_call GJw hrJw rfl mJw FJw.kp bJw .nil pass0 (pa_cons (pv 0) (pa_cons (pv 1) pa_nil)))) (blkOk_by (own := [("word", 3)]) (N := ["self", "other", "pairs", "word"]) (sc := defScope s_Counts_or) (by decide +kernel)) (fun _ _ _ _ _ => (pg_name (i := 3) sc_Counts_or.nd rfl (Or.inl rfl))) (fun _ _ _ _ _ => pts_nil) (fun _ _ _ _ _ => (pe_tup (pa_cons (pv 3) (pa_cons (pe_callB (call_max2 rfl) (by rfl) g.max (by decide +kernel) (pa_cons (pe_callTy call_int1 (by rfl) g.int (by decide +kernel) (pa_cons (pe_ixO SGe.c SGe.fi SGe.ok hrGe SGe.b pass0 (pv 0) (pv 3)) pa_nil)) (pa_cons (pe_callTy call_int1 (by rfl) g.int (by decide +kernel) (pa_cons (pe_ixO SGe.c SGe.fi SGe.ok hrGe SGe.b pass0 (pv 1) (pv 3)) pa_nil)) pa_nil))) pa_nil)))))
      (pss_one (ps_ret (pe_mkS T.mke T.ini hrI rfl T.mgC pass0 (pv 2)))))), ?_⟩
    obtain ⟨⟨dx, hp⟩, _⟩ := id hc
    obtain ⟨⟨dx2, hq⟩, _⟩ := id hc2
    refine ⟨_, rfl, _, _, _, _, true, rfl, .own C, ci.ty hq, kit_self, _, rfl, iteF ?_⟩
    refine ⟨_, rfl, _, rfl, p, d, q, e, t, u, rfl, hc, hc2, hl, hl2, fun l H1 ws hl' s1 h1 ha hm hle => ⟨l, rfl, ⟨_, SqL.of h1⟩, fun D hD => ?_⟩⟩
    have hww : ∀ z ∈ ws, Word z := fun z hz => ((hm z).mp hz).elim (hc.wd z) (hc2.wd z)
    refine lc_pairs (G := fun z => if val u z > val t z then val u z else val t z) h1 hD (by omega) (fun _ => rfl) (fun z hz H' s' Qe qk => ?_) fun H' xs s' hD' hP' => ?_
    · have hcA := (hc.same s1).same s'
      obtain ⟨⟨dxA, hpA⟩, _⟩ := id hcA
      refine ⟨_, rfl, _, rfl, _, rfl, p, dxA, _, rfl, hpA, p, d, t, z, rfl, hww z hz, hcA, fun H2 s2 => ?_⟩
      have hcB := ((hc2.same s1).same s').same s2
      obtain ⟨⟨dxB, hqB⟩, _⟩ := id hcB
      refine Or.inl ⟨_, rfl, _, rfl, _, rfl, q, dxB, _, rfl, hqB, q, e, u, z, rfl, hww z hz, hcB, fun H3 s3 => Or.inl ⟨_, rfl, _, _, rfl, ?_⟩⟩
      
      exact ⟨by show 2 ≤ sizeLine; decide, fun T2 hT2 => qk T2 _ ((s2.trans s3).free hT2) ((s2.trans s3).trans (Same.new hT2)) upd_same⟩
    · refine ⟨_, rfl, D, xs, rfl, .inr (SqL.of hD'), mk_pairs hP' (wd_map hww _) (by rw [List.length_map]; omega) (by rw [List.length_map]; exact hle) (fun z => ?_) (k.later (s1.trans s'))⟩
      rw [sumOf_map ha]
      by_cases c : z ∈ ws
      · rw [if_pos c]
      · have c1 : ¬ (z ∈ keys t ∨ z ∈ keys u) := mt (hm z).mpr c
        rw [if_neg c, val_out (fun m => c1 (.inl m)), val_out (fun m => c1 (.inr m))]
        rfl
theorem ok_xor {C f fSu fAb : Addr} {fd fdSu fdAb : FuncData} {fI : Addr} (F : Fun K "__xor__" "Counts.__xor__" s_Counts_xor f fd) (g : Bj mg) (T : CT P w K mg base C fI) (ci : CI K C) (OSu : ODef P w K mg base CX0 4 C (PySem.dunder "sub") ["self", "other"] (spBin C fun a b => a - b) fSu fdSu)
    (SAb : GDef P w K mg base CX0 3 C "__abs__" ["self"] (spUn C fun a => if a < 0 then -a else a) fAb fdAb) : FnOk P w K mg base CX0 5 f fd ["self", "other"] (spBin C fun a b => if a - b < 0 then -(a - b) else a - b) := by
  refine F.ok sc_Counts_xor (fun vs H Q E h => ?_) (fun cdv A outer s H vs Q E hr h => ?_)
  · obtain ⟨_, _, _, _, _, _, rfl, _⟩ := h
    rfl
  · obtain ⟨p, d, q, e, t, u, rfl, hc, hc2, hl, hl2, k⟩ := h
    have hrSu : Room 4 _ := hr.mono (by decide)
    have hrAb : Room 4 _ := hr.mono (by decide)
    refine ⟨_, (pss_cons (ps_if (pt_not (pt_val (pe_callB call_isi (by rfl) g.isinstance (by decide +kernel) (pa_cons (pv 1) (pa_cons (pe_glob (v := .ref C) rfl T.mgC rfl) pa_nil))))) (pss_one (ps_never)) pss_nil)
      (pss_one (ps_ret (pe_callB (call_absO SAb.c SAb.ok hrAb SAb.b pass0) (by rfl) g.abs (by decide +kernel) (pa_cons (pe_op (op_own OSu.c OSu.ok hrSu OSu.b pass0) (pv 0) (pv 1)) pa_nil))))), ?_⟩
    obtain ⟨⟨dx, hp⟩, _⟩ := id hc
    obtain ⟨⟨dx2, hq⟩, _⟩ := id hc2
    refine ⟨_, rfl, _, _, _, _, true, rfl, .own C, ci.ty hq, kit_self, _, rfl, iteF ?_⟩
    refine ⟨_, rfl, _, rfl, p, q, dx, dx2, _, _, rfl, rfl, hp, hq, p, d, q, e, t, u, rfl, hc, hc2, hl, hl2, fun r1 e1 H1 t1 hr1 he1 s1 hc1 hv1 hl1 => ?_⟩
    obtain ⟨⟨dx3, hr3⟩, _⟩ := id hc1
    refine ⟨r1, dx3, _, rfl, hr3, r1, e1, t1, rfl, hc1, by omega, fun r2 e2 H2 t2 hr2 he2 s2 hc2' hv2 hl2' => ?_⟩
    refine k r2 e2 H2 t2 (s1.free hr2) (s1.free he2) (s1.trans s2) hc2' (fun z => ?_) (by omega)
    rw [hv2]
    dsimp only
    rw [hv1]
theorem ok_rmul {C f fMu fRm : Addr} {fd fdMu : FuncData} {fI : Addr} (F : Fun K "__rmul__" "Counts.__rmul__" s_Counts_rmul f fd) (g : Bj mg) (T : CT P w K mg base C fI) (OMu : TDef P w K mg base CX0 3 C "mul" ["self", "times"] (spMul C) fMu fRm fdMu) : FnOk P w K mg base CX0 4 f fd ["self", "times"] (spMul C) := by
  refine F.ok sc_Counts_rmul (fun vs H Q E h => ?_) (fun cdv A outer s H vs Q E hr h => ?_)
  · obtain ⟨_, _, _, _, rfl, _⟩ := h
    rfl
  · obtain ⟨p, d, t, n, rfl, hc, hl, hb, k⟩ := h
    have hrMu : Room 3 _ := hr.mono (by decide)
    refine ⟨_, (pss_one (ps_ret (pe_op (op_ownI OMu.c OMu.i1 OMu.i2 OMu.ok hrMu OMu.b pass0) (pv 0) (pv 1)))), ?_⟩
    obtain ⟨⟨dx, hp⟩, _⟩ := id hc
    exact ⟨_, rfl, _, rfl, p, dx, _, n, rfl, rfl, hp, p, d, t, n, rfl, hc, hl, hb, k⟩
theorem ok_iadd {C f fOp : Addr} {fd fdOp : FuncData} {fI : Addr} (F : Fun K "__iadd__" "Counts.__iadd__" s_Counts_iadd f fd) (g : Bj mg) (T : CT P w K mg base C fI) (OAd : ODef P w K mg base CX0 4 C (PySem.dunder "add") ["self", "other"] (spBin C fun a b => a + b) fOp fdOp) : FnOk P w K mg base CX0 5 f fd ["self", "other"] (spIn C fun a b => a + b) := by
  refine F.ok sc_Counts_iadd (fun vs H Q E h => ?_) (fun cdv A outer s H vs Q E hr h => ?_)
  · obtain ⟨_, _, _, _, _, _, rfl, _⟩ := h
    rfl
  · obtain ⟨p, d, q, e, t, u, rfl, hc, hc2, hl, hl2, k⟩ := h
    have hrAd : Room 4 _ := hr.mono (by decide)
    refine ⟨_, (pss_cons (ps_set (i := 2) sc_Counts_iadd.nd rfl (Or.inl rfl) (pe_op (op_own OAd.c OAd.ok hrAd OAd.b pass0) (pv 0) (pv 1)))
      (pss_cons (ps_fld (pv 0) (pe_fld (pv 2) rfl) rfl)
      (pss_one (ps_ret (pv 0))))), ?_⟩
    obtain ⟨⟨dx, hp⟩, _⟩ := id hc
    obtain ⟨⟨dx2, hq⟩, _⟩ := id hc2
    refine ⟨_, rfl, _, rfl, p, q, dx, dx2, _, _, rfl, rfl, hp, hq, p, d, q, e, t, u, rfl, hc, hc2, hl, hl2, fun r1 e1 H1 t1 hr1 he1 s1 hc1 hv1 hl1 => ?_⟩
    obtain ⟨⟨dx3, hr3⟩, hd3, hh3, hw3⟩ := id hc1
    have npr : p ≠ r1 := ne_of_none hp hr1
    refine ⟨_, rfl, r1, C, dx3, _, _, rfl, hr3, T.cl, T.nH, flds_held e1, _, rfl, p, C, dx, _, rfl, s1 _ _ hp, T.cl, T.nH, (by show 1 < 1000; decide), ?_⟩
    rw [putF_held]
    refine ⟨_, rfl, k e1 _ t1 he1 ⟨⟨dx, upd_same⟩, by rw [upd_ne (ne_of hd3 (s1 _ _ hp) (by intro z; cases z))]; exact hd3, hh3, hw3⟩ hv1 hl1 fun b o eb nb => ?_⟩
    rw [upd_ne nb]
    exact s1 _ _ eb
theorem ok_isub {C f fOp : Addr} {fd fdOp : FuncData} {fI : Addr} (F : Fun K "__isub__" "Counts.__isub__" s_Counts_isub f fd) (g : Bj mg) (T : CT P w K mg base C fI) (OSu : ODef P w K mg base CX0 4 C (PySem.dunder "sub") ["self", "other"] (spBin C fun a b => a - b) fOp fdOp) : FnOk P w K mg base CX0 5 f fd ["self", "other"] (spIn C fun a b => a - b) := by
  refine F.ok sc_Counts_isub (fun vs H Q E h => ?_) (fun cdv A outer s H vs Q E hr h => ?_)
  · obtain ⟨_, _, _, _, _, _, rfl, _⟩ := h
    rfl
  · obtain ⟨p, d, q, e, t, u, rfl, hc, hc2, hl, hl2, k⟩ := h
    have hrSu : Room 4 _ := hr.mono (by decide)
    refine ⟨_, (pss_cons (ps_set (i := 2) sc_Counts_isub.nd rfl (Or.inl rfl) (pe_op (op_own OSu.c OSu.ok hrSu OSu.b pass0) (pv 0) (pv 1)))
      (pss_cons (ps_fld (pv 0) (pe_fld (pv 2) rfl) rfl)
      (pss_one (ps_ret (pv 0))))), ?_⟩
    obtain ⟨⟨dx, hp⟩, _⟩ := id hc
    obtain ⟨⟨dx2, hq⟩, _⟩ := id hc2
    refine ⟨_, rfl, _, rfl, p, q, dx, dx2, _, _, rfl, rfl, hp, hq, p, d, q, e, t, u, rfl, hc, hc2, hl, hl2, fun r1 e1 H1 t1 hr1 he1 s1 hc1 hv1 hl1 => ?_⟩
    obtain ⟨⟨dx3, hr3⟩, hd3, hh3, hw3⟩ := id hc1
    have npr : p ≠ r1 := ne_of_none hp hr1
    refine ⟨_, rfl, r1, C, dx3, _, _, rfl, hr3, T.cl, T.nH, flds_held e1, _, rfl, p, C, dx, _, rfl, s1 _ _ hp, T.cl, T.nH, (by show 1 < 1000; decide), ?_⟩
    rw [putF_held]
    refine ⟨_, rfl, k e1 _ t1 he1 ⟨⟨dx, upd_same⟩, by rw [upd_ne (ne_of hd3 (s1 _ _ hp) (by intro z; cases z))]; exact hd3, hh3, hw3⟩ hv1 hl1 fun b o eb nb => ?_⟩
    rw [upd_ne nb]
    exact s1 _ _ eb
theorem ok_iand {C f fOp : Addr} {fd fdOp : FuncData} {fI : Addr} (F : Fun K "__iand__" "Counts.__iand__" s_Counts_iand f fd) (g : Bj mg) (T : CT P w K mg base C fI) (OAn : ODef P w K mg base CX0 4 C (PySem.dunder "and") ["self", "other"] (spBin C fun a b => if b < a then b else a) fOp fdOp) : FnOk P w K mg base CX0 5 f fd ["self", "other"] (spIn C fun a b => if b < a then b else a) := by
  refine F.ok sc_Counts_iand (fun vs H Q E h => ?_) (fun cdv A outer s H vs Q E hr h => ?_)
  · obtain ⟨_, _, _, _, _, _, rfl, _⟩ := h
    rfl
  · obtain ⟨p, d, q, e, t, u, rfl, hc, hc2, hl, hl2, k⟩ := h
    have hrAn : Room 4 _ := hr.mono (by decide)
    refine ⟨_, (pss_cons (ps_set (i := 2) sc_Counts_iand.nd rfl (Or.inl rfl) (pe_op (op_own OAn.c OAn.ok hrAn OAn.b pass0) (pv 0) (pv 1)))
      (pss_cons (ps_fld (pv 0) (pe_fld (pv 2) rfl) rfl)
      (pss_one (ps_ret (pv 0))))), ?_⟩
    obtain ⟨⟨dx, hp⟩, _⟩ := id hc
    obtain ⟨⟨dx2, hq⟩, _⟩ := id hc2
    refine ⟨_, rfl, _, rfl, p, q, dx, dx2, _, _, rfl, rfl, hp, hq, p, d, q, e, t, u, rfl, hc, hc2, hl, hl2, fun r1 e1 H1 t1 hr1 he1 s1 hc1 hv1 hl1 => ?_⟩
    obtain ⟨⟨dx3, hr3⟩, hd3, hh3, hw3⟩ := id hc1
    have npr : p ≠ r1 := ne_of_none hp hr1
    refine ⟨_, rfl, r1, C, dx3, _, _, rfl, hr3, T.cl, T.nH, flds_held e1, _, rfl, p, C, dx, _, rfl, s1 _ _ hp, T.cl, T.nH, (by show 1 < 1000; decide), ?_⟩
    rw [putF_held]
    refine ⟨_, rfl, k e1 _ t1 he1 ⟨⟨dx, upd_same⟩, by rw [upd_ne (ne_of hd3 (s1 _ _ hp) (by intro z; cases z))]; exact hd3, hh3, hw3⟩ hv1 hl1 fun b o eb nb => ?_⟩
    rw [upd_ne nb]
    exact s1 _ _ eb
theorem ok_ior {C f fOp : Addr} {fd fdOp : FuncData} {fI : Addr} (F : Fun K "__ior__" "Counts.__ior__" s_Counts_ior f fd) (g : Bj mg) (T : CT P w K mg base C fI) (OOr : ODef P w K mg base CX0 4 C (PySem.dunder "or") ["self", "other"] (spBin C fun a b => if b > a then b else a) fOp fdOp) : FnOk P w K mg base CX0 5 f fd ["self", "other"] (spIn C fun a b => if b > a then b else a) := by
  refine F.ok sc_Counts_ior (fun vs H Q E h => ?_) (fun cdv A outer s H vs Q E hr h => ?_)
  · obtain ⟨_, _, _, _, _, _, rfl, _⟩ := h
    rfl
  · obtain ⟨p, d, q, e, t, u, rfl, hc, hc2, hl, hl2, k⟩ := h
    have hrOr : Room 4 _ := hr.mono (by decide)
    refine ⟨_, (pss_cons (ps_set (i := 2) sc_Counts_ior.nd rfl (Or.inl rfl) (pe_op (op_own OOr.c OOr.ok hrOr OOr.b pass0) (pv 0) (pv 1)))
      (pss_cons (ps_fld (pv 0) (pe_fld (pv 2) rfl) rfl)
      (pss_one (ps_ret (pv 0))))), ?_⟩
    obtain ⟨⟨dx, hp⟩, _⟩ := id hc
    obtain ⟨⟨dx2, hq⟩, _⟩ := id hc2
    refine ⟨_, rfl, _, rfl, p, q, dx, dx2, _, _, rfl, rfl, hp, hq, p, d, q, e, t, u, rfl, hc, hc2, hl, hl2, fun r1 e1 H1 t1 hr1 he1 s1 hc1 hv1 hl1 => ?_⟩
    obtain ⟨⟨dx3, hr3⟩, hd3, hh3, hw3⟩ := id hc1
    have npr : p ≠ r1 := ne_of_none hp hr1
    refine ⟨_, rfl, r1, C, dx3, _, _, rfl, hr3, T.cl, T.nH, flds_held e1, _, rfl, p, C, dx, _, rfl, s1 _ _ hp, T.cl, T.nH, (by show 1 < 1000; decide), ?_⟩
    rw [putF_held]
    refine ⟨_, rfl, k e1 _ t1 he1 ⟨⟨dx, upd_same⟩, by rw [upd_ne (ne_of hd3 (s1 _ _ hp) (by intro z; cases z))]; exact hd3, hh3, hw3⟩ hv1 hl1 fun b o eb nb => ?_⟩
    rw [upd_ne nb]
    exact s1 _ _ eb
theorem ok_imul {C f fMu fRm : Addr} {fd fdMu : FuncData} {fI : Addr} (F : Fun K "__imul__" "Counts.__imul__" s_Counts_imul f fd) (g : Bj mg) (T : CT P w K mg base C fI) (OMu : TDef P w K mg base CX0 3 C "mul" ["self", "times"] (spMul C) fMu fRm fdMu) : FnOk P w K mg base CX0 4 f fd ["self", "times"] (spImul C) := by
  refine F.ok sc_Counts_imul (fun vs H Q E h => ?_) (fun cdv A outer s H vs Q E hr h => ?_)
  · obtain ⟨_, _, _, _, rfl, _⟩ := h
    rfl
  · obtain ⟨p, d, t, n, rfl, hc, hl, hb, k⟩ := h
    have hrMu : Room 3 _ := hr.mono (by decide)
    refine ⟨_, (pss_cons (ps_set (i := 2) sc_Counts_imul.nd rfl (Or.inl rfl) (pe_op (op_ownI OMu.c OMu.i1 OMu.i2 OMu.ok hrMu OMu.b pass0) (pv 0) (pv 1)))
      (pss_cons (ps_fld (pv 0) (pe_fld (pv 2) rfl) rfl)
      (pss_one (ps_ret (pv 0))))), ?_⟩
    obtain ⟨⟨dx, hp⟩, _⟩ := id hc
    refine ⟨_, rfl, _, rfl, p, dx, _, n, rfl, rfl, hp, p, d, t, n, rfl, hc, hl, hb, fun r1 e1 H1 t1 hr1 he1 s1 hc1 hv1 hl1 => ?_⟩
    obtain ⟨⟨dx3, hr3⟩, hd3, hh3, hw3⟩ := id hc1
    refine ⟨_, rfl, r1, C, dx3, _, _, rfl, hr3, T.cl, T.nH, flds_held e1, _, rfl, p, C, dx, _, rfl, s1 _ _ hp, T.cl, T.nH, (by show 1 < 1000; decide), ?_⟩
    rw [putF_held]
    refine ⟨_, rfl, k e1 _ t1 he1 ⟨⟨dx, upd_same⟩, by rw [upd_ne (ne_of hd3 (s1 _ _ hp) (by intro z; cases z))]; exact hd3, hh3, hw3⟩ hv1 hl1 fun b o eb nb => ?_⟩
    rw [upd_ne nb]
    exact s1 _ _ eb
end
end Cs

set_option Elab.async false
set_option linter.all false
set_option maxRecDepth 100000
set_option maxHeartbeats 4000000
/-! Methods, properties and the like as their callers have them; more plain laws. -/
namespace Cs
open PySem L2
/-- an own special method, a property, a classmethod, a def with a star, as callers have them -/
structure SDef (P : Program) (w : World) (K : PySem.W.Frag) (mg : Str → Option Value) (base : Heap) (CX : CXT) (k : Nat) (C : Addr) (m : Str) (ps : List Str) (sp : Sp) (f : Addr) (fd : FuncData) : Prop where
  c : Spc K C m f
  ns : PySem.W.noSeq K C = true
  ok : FnOk P w K mg base CX k f fd ps sp
  b : Binds K fd ps []
structure PDef (P : Program) (w : World) (K : PySem.W.Frag) (mg : Str → Option Value) (base : Heap) (CX : CXT) (k : Nat) (C : Addr) (m : Str) (sp : Sp) (q f : Addr) (fd : FuncData) : Prop where
  p : PropOf K C m q f
  ok : FnOk P w K mg base CX k f fd ["self"] sp
  b : Binds K fd ["self"] []
structure KDef (P : Program) (w : World) (K : PySem.W.Frag) (mg : Str → Option Value) (base : Heap) (CX : CXT) (k : Nat) (C : Addr) (mc : Value) (m : Str) (sp : Sp) (q f : Addr) : Prop where
  r : ClX.CRead K C mc
  c : ClX.CMet K C mc m q f
  ok : FnR P w K mg base CX k f sp
structure RDef (P : Program) (w : World) (K : PySem.W.Frag) (mg : Str → Option Value) (base : Heap) (CX : CXT) (k : Nat) (C : Addr) (m : Str) (sp : Sp) (f : Addr) : Prop where
  me : Meth K C m f
  ok : FnR P w K mg base CX k f sp
theorem nodup_of_map {α β : Type} {f : α → β} {l : List α} (h : (l.map f).Nodup) : l.Nodup := by
  unfold List.Nodup at h ⊢
  rw [List.pairwise_map] at h
  exact h.imp fun n e => n (by rw [e])
theorem told_perm {t l : Tab} (h : Held t) (k : Told (val t) l) : l.Perm t := by
  have n1 : l.Nodup := by
    have := k.asc.nodup
    unfold keys at this
    exact nodup_of_map this
  have n2 : t.Nodup := by
    have := h.nd
    unfold keys at this
    exact nodup_of_map this
  rw [List.perm_ext_iff_of_nodup n1 n2]
  rintro ⟨z, n⟩
  rw [k.mem]
  constructor
  · rintro ⟨e, q⟩
    have hz : z ∈ keys t := (h.keys_iff z).mpr (e ▸ q)
    obtain ⟨n', a, b⟩ := look_some hz
    have : n = n' := by rw [e]; unfold val; rw [a]; rfl
    rw [this]
    exact b
  · intro m
    refine ⟨?_, h.nz _ m⟩
    unfold val
    rw [look_mem h.nd m]
    rfl
theorem sum_perm {l m : List Int} (h : l.Perm m) : l.sum = m.sum := by
  induction h with
  | nil => rfl
  | cons x _ ih => rw [List.sum_cons, List.sum_cons, ih]
  | swap x y l => rw [List.sum_cons, List.sum_cons, List.sum_cons, List.sum_cons]; omega
  | trans _ _ a b => exact a.trans b
theorem total_told {t l : Tab} (h : Held t) (k : Told (val t) l) : (t.map (·.2)).sum = (l.map (·.2)).sum := (sum_perm ((told_perm h k).map _)).symm
theorem Told.congr {f g : Str → Int} {l : Tab} (h : Told f l) (e : ∀ z, f z = g z) : Told g l := by
  obtain rfl : f = g := funext e
  exact h
theorem cut_last (xs : List V) (x : V) : cutV (xs ++ [x]) none (some (-1)) = xs := by
  unfold cutV
  show ((xs ++ [x]).drop 0).take ((-1 + ((xs ++ [x]).length : Int)).toNat - 0) = xs
  rw [List.length_append, List.drop_zero]
  have : (-1 + ((xs.length + [x].length : Nat) : Int)).toNat - 0 = xs.length := by
    simp only [List.length_singleton]
    omega
  rw [this]
  simp
def pds (zs : List Str) : PyData := .list (zs.map .str)
theorem pds_can : ∀ {zs : List Str}, (∀ z ∈ zs, Word z) → PyData.canLayAll0 (zs.map .str) = true
  | [], _ => rfl
  | z :: zs, h => by
    rw [List.map_cons, PyData.canLayAll0, pds_can fun y m => h y (List.mem_cons_of_mem _ m), PyData.canLay0, word_ok (h z List.mem_cons_self)]
    rfl
theorem pds_depth : ∀ zs : List Str, PyData.depthAll (zs.map .str) = 0
  | [] => rfl
  | z :: zs => by
    rw [List.map_cons, PyData.depthAll, pds_depth zs, PyData.depth]
    rfl
theorem pds_shaped {zs : List Str} (h : ∀ z ∈ zs, Word z) : SeqAt.shaped (pds zs) = true := by
  unfold SeqAt.shaped pds
  rw [Bool.and_eq_true]
  refine ⟨by rw [PyData.canLay0]; exact pds_can h, decide_eq_true ?_⟩
  rw [PyData.depth, pds_depth]
  decide
theorem pds_refl {zs : List Str} (h : ∀ z ∈ zs, Word z) : PyData.eqv (pds zs) (pds zs) = true := SeqAt.eqv_refl _ (SeqAt.canLay_of_shaped (pds_shaped h))
theorem dp_strs {K : PySem.W.Frag} {H : Hp} : ∀ zs : List Str, DpAll K H (zs.map V.str) (zs.map .str)
  | [] => .nil
  | z :: zs => .cons (.str z) (dp_strs zs)
theorem four {α : Type} {l : List α} (h : l.length = 4) : ∃ a b c d, l = [a, b, c, d] := by
  match l, h with
  | [a, b, c, d], _ => exact ⟨a, b, c, d, rfl⟩
def spLaw (K : PySem.W.Frag) : Sp := fun vs H Q _ => ∃ (a : Addr) (ns : List Int), vs = [.ref a] ∧ SqL K H a (ns.map V.int) ∧ ns.length ≤ 63 ∧ ∀ H', Q (.bl true) H'
end Cs

set_option Elab.async false
set_option linter.all false
set_option maxRecDepth 100000
set_option maxHeartbeats 4000000
/-! Plain laws for models made word by word; rows of counts and their models. -/
namespace Cs
open PySem L2
/-- the table of G at the words ws -/
def byT (G : Str → Int) (ws : List Str) : Tab := ws.foldl (fun t z => put t z (G z)) []
theorem byT_snoc (G : Str → Int) (ws : List Str) (z : Str) : byT G (ws ++ [z]) = put (byT G ws) z (G z) := by
  unfold byT
  rw [List.foldl_append]
  rfl
theorem byT_nd (G : Str → Int) : ∀ ws, (keys (byT G ws)).Nodup := snoc_rec List.nodup_nil fun l a h => by
  rw [byT_snoc]
  exact nd_put h
theorem byT_keys (G : Str → Int) (z : Str) : ∀ ws, z ∈ keys (byT G ws) ↔ z ∈ ws := snoc_rec ⟨(fun h => nomatch h), fun h => nomatch h⟩ fun l a h => by
  rw [byT_snoc, mem_keys_put, h, List.mem_append, List.mem_singleton]
theorem byT_val (G : Str → Int) (z : Str) : ∀ ws, val (byT G ws) z = if z ∈ ws then G z else 0 := snoc_rec rfl fun l a h => by
  rw [byT_snoc, val_put (byT_nd G l), h]
  by_cases e : z = a
  · subst e
    rw [if_pos rfl, if_pos (by simp)]
  · rw [if_neg e]
    by_cases m : z ∈ l
    · rw [if_pos m, if_pos (by simp [m])]
    · rw [if_neg m, if_neg (by simp [m, e])]
theorem byT_len (G : Str → Int) : ∀ ws, (byT G ws).length ≤ ws.length := snoc_rec (Nat.le_refl _) fun l a h => by
  rw [byT_snoc, List.length_append]
  have := len_put (byT G l) a (G a)
  simp only [List.length_singleton]
  omega
theorem val_outK {t : Tab} {z : Str} (h : z ∉ keys t) : val t z = 0 := by
  unfold val
  rw [look_none h]
  rfl
theorem keys_len (t : Tab) : (keys t).length = t.length := List.length_map _
theorem keys_at {t : Tab} {i : Nat} (h : i < t.length) : (keys t)[i]? = some t[i].1 := by
  unfold keys
  rw [List.getElem?_map, List.getElem?_eq_getElem h]
  rfl
/-- keys as values -/
theorem tv_keys (t : Tab) : (tv t).map (fun q => kV q.1) = (keys t).map V.str := by
  unfold tv keys
  rw [List.map_map, List.map_map]
  rfl
/-! sizes -/
def Bd (n : Int) : Prop := n.natAbs < 2 ^ 1000
theorem log_of {n : Int} (h : Bd n) : n.natAbs.log2 ≤ 1000 := by
  by_cases e : n.natAbs = 0
  · rw [e]
    decide
  · exact Nat.le_of_lt ((Nat.log2_lt e).mpr h)
theorem logs_of {n m : Int} (h : Bd n) (k : Bd m) : n.natAbs.log2 + m.natAbs.log2 < 1000000 := by
  have := log_of h
  have := log_of k
  omega
theorem Small.bd {n : Int} (h : Small n) : Bd n := by
  have h1 := h.1
  have h2 := h.2
  have h3 : n.natAbs < 10 ^ 30 := by omega
  exact Nat.lt_trans h3 (by decide +kernel)
theorem sumOf_small (z : Str) : ∀ {ps : List (Str × Int)}, GoodPs ps → -(10 ^ 30 * (ps.length : Int)) ≤ sumOf ps z ∧ sumOf ps z ≤ 10 ^ 30 * (ps.length : Int)
  | [], _ => ⟨Int.le_refl _, Int.le_refl _⟩
  | q :: ps, h => by
    obtain ⟨a, b⟩ := sumOf_small z (ps := ps) fun r m => h r (List.mem_cons_of_mem _ m)
    obtain ⟨c, d⟩ := (h q List.mem_cons_self).2
    have e : sumOf (q :: ps) z = (if q.1 = z then q.2 else 0) + sumOf ps z := by
      unfold sumOf
      rw [List.filter_cons]
      by_cases e : q.1 = z
      · rw [if_pos (decide_eq_true e), if_pos e, List.map_cons, List.sum_cons]
      · rw [if_neg (by simpa using e), if_neg e, Int.zero_add]
    rw [e, List.length_cons]
    by_cases e : q.1 = z
    · rw [if_pos e]
      omega
    · rw [if_neg e]
      omega
theorem sumOf_bd {ps : List (Str × Int)} (h : GoodPs ps) (hl : ps.length ≤ 1000) (z : Str) : Bd (sumOf ps z) := by
  obtain ⟨a, b⟩ := sumOf_small z h
  have : (sumOf ps z).natAbs ≤ 10 ^ 30 * 1000 := by omega
  exact Nat.lt_of_le_of_lt this (by decide +kernel)
/-! rows -/
def RowOk (C : Addr) (H : Hp) (x : V) (a : Addr × Addr) : Prop := ∃ (T r : Addr) (t u : Tab), x = .ref T ∧ H T = some (.tup [.ref r, .ref a.2]) ∧ Cnt C H r a.1 t ∧ t.length ≤ 50 ∧ Mdl H a.2 u ∧ u.length ≤ 50 ∧ ∀ z, val t z = val u z
theorem RowOk.same {C : Addr} {H H' : Hp} {x : V} {a : Addr × Addr} (s : Same H H') (h : RowOk C H x a) : RowOk C H' x a := by
  obtain ⟨T, r, t, u, e, hT, hc, hl, hm, hlu, hv⟩ := h
  exact ⟨T, r, t, u, e, s _ _ hT, hc.same s, hl, hm.same s, hlu, hv⟩
theorem pair_snoc {α β : Type} {R : α → β → Prop} : ∀ {xs : List α} {ys : List β} {x : α} {y : β}, Paired R xs ys → R x y → Paired R (xs ++ [x]) (ys ++ [y])
  | _, _, _, _, .nil, h => .cons h .nil
  | _, _, _, _, .cons r t, h => .cons r (pair_snoc t h)
theorem pair_len {α β : Type} {R : α → β → Prop} : ∀ {xs : List α} {ys : List β}, Paired R xs ys → xs.length = ys.length
  | _, _, .nil => rfl
  | _, _, .cons _ t => congrArg (· + 1) (pair_len t)
/-- rows whose results' dicts are apart from each other, from all models of rows and from S -/
structure RWs (C : Addr) (S : List Addr) (H : Hp) (xs : List V) (as : List (Addr × Addr)) : Prop where
  ok : Paired (RowOk C H) xs as
  pw : as.Pairwise fun a b => a.1 ≠ b.1
  mx : ∀ a ∈ as, ∀ b ∈ as, a.1 ≠ b.2
  own : ∀ a ∈ as, a.1 ∉ S
  ex : ∀ s ∈ S, ∃ o, H s = some o
theorem rows_at {C : Addr} {H : Hp} : ∀ {xs : List V} {as : List (Addr × Addr)}, Paired (RowOk C H) xs as → ∀ a ∈ as, (∃ o, H a.1 = some o) ∧ ∃ o, H a.2 = some o
  | _, _, .nil, a, h => nomatch h
  | _, _, .cons r t, a, h => by
    rcases List.mem_cons.mp h with e | e
    · subst e
      obtain ⟨T, r, t, u, _, _, hc, _, hm, _⟩ := r
      exact ⟨⟨_, hc.dc⟩, ⟨_, hm.dc⟩⟩
    · exact rows_at t a e
theorem RWs.same {C : Addr} {S : List Addr} {H H' : Hp} {xs : List V} {as : List (Addr × Addr)} (s : Same H H') (h : RWs C S H xs as) : RWs C S H' xs as := ⟨L2.Paired.mapP h.ok fun _ _ r => r.same s, h.pw, h.mx, h.own, fun b m => by
  obtain ⟨o, e⟩ := h.ex b m
  exact ⟨o, s _ _ e⟩⟩
theorem RWs.snoc {C : Addr} {S : List Addr} {H H' : Hp} {xs : List V} {as : List (Addr × Addr)} {x : V} {e m : Addr} (h : RWs C S H xs as) (s : Same H H') (f1 : H e = none) (f2 : H m = none ∨ m ∈ S) (ne : e ≠ m) (r : RowOk C H' x (e, m)) : RWs C S H' (xs ++ [x]) (as ++ [(e, m)]) := by
  have hS := h.same s
  refine ⟨pair_snoc hS.ok r, ?_, ?_, ?_, hS.ex⟩
  · rw [List.pairwise_append]
    refine ⟨h.pw, List.pairwise_singleton _ _, fun a ha b hb => ?_⟩
    rw [List.mem_singleton.mp hb]
    obtain ⟨⟨_, h1⟩, _⟩ := rows_at h.ok a ha
    exact ne_of_none h1 f1
  · intro a ha b hb
    rcases List.mem_append.mp ha with qa | qa <;> rcases List.mem_append.mp hb with qb | qb
    · exact h.mx a qa b qb
    · rw [List.mem_singleton.mp qb]
      obtain ⟨⟨_, h1⟩, _⟩ := rows_at h.ok a qa
      rcases f2 with f2 | f2
      · exact ne_of_none h1 f2
      · exact fun q => h.own a qa (by rw [q]; exact f2)
    · rw [List.mem_singleton.mp qa]
      obtain ⟨_, ⟨_, h2⟩⟩ := rows_at h.ok b qb
      exact (ne_of_none h2 f1).symm
    · rw [List.mem_singleton.mp qa, List.mem_singleton.mp qb]
      exact ne
  · intro a ha
    rcases List.mem_append.mp ha with qa | qa
    · exact h.own a qa
    · rw [List.mem_singleton.mp qa]
      intro q
      obtain ⟨o, e'⟩ := h.ex _ q
      exact ne_of_none e' f1 rfl
theorem RWs.nil {C : Addr} {S : List Addr} {H : Hp} (h : ∀ s ∈ S, ∃ o, H s = some o) : RWs C S H [] [] := ⟨.nil, .nil, (fun _ h => nomatch h), (fun _ h => nomatch h), h⟩
/-- what stays of rows when the dict at aa.1 is changed -/
theorem rows_step {C : Addr} {H H3 : Hp} {e : Addr} {t0 : List (Key × V)} (he : H e = some (.dK t0)) (kk : ∀ b o, H b = some o → b ≠ e → H3 b = some o) : ∀ {ys : List V} {bs : List (Addr × Addr)}, Paired (RowOk C H) ys bs → (∀ b ∈ bs, e ≠ b.1 ∧ e ≠ b.2) → Paired (RowOk C H3) ys bs
  | _, _, .nil, _ => .nil
  | _, _, .cons hr tl, hd => by
    refine .cons ?_ (rows_step he kk tl fun b hb => hd b (List.mem_cons_of_mem _ hb))
    obtain ⟨Tb, rb, tb, ub, eb, hTb, ⟨⟨dx, h1⟩, h2, h3, h4⟩, hlb, hmb, hlub, hvb⟩ := hr
    obtain ⟨q1, q2⟩ := hd _ List.mem_cons_self
    have dif : ∀ {b : Addr} {o : HO}, H b = some o → (∀ kvs, o ≠ .dK kvs) → H3 b = some o := fun {b o} e1 nn => kk b o e1 (by rintro rfl; rw [he] at e1; exact nn _ (Option.some.inj e1).symm)
    exact ⟨Tb, rb, tb, ub, eb, dif hTb (fun _ q => by cases q), ⟨⟨dx, dif h1 (fun _ q => by cases q)⟩, kk _ _ h2 q1.symm, h3, h4⟩, hlb, ⟨kk _ _ hmb.dc q2.symm, hmb.nd, hmb.wd⟩, hlub, hvb⟩
theorem Cnt.keep {C : Addr} {H H3 : Hp} {e : Addr} {t0 : List (Key × V)} {r d : Addr} {t : Tab} (he : H e = some (.dK t0)) (kk : ∀ b o, H b = some o → b ≠ e → H3 b = some o) (h : Cnt C H r d t) (n : d ≠ e) : Cnt C H3 r d t := by
  obtain ⟨⟨dx, h1⟩, h2, h3, h4⟩ := h
  exact ⟨⟨dx, kk _ _ h1 (by rintro rfl; rw [he] at h1; cases h1)⟩, kk _ _ h2 n, h3, h4⟩
theorem Mdl.keep {H H3 : Hp} {e : Addr} {m : Addr} {u : Tab} (kk : ∀ b o, H b = some o → b ≠ e → H3 b = some o) (h : Mdl H m u) (n : m ≠ e) : Mdl H3 m u := ⟨kk _ _ h.dc n, h.nd, h.wd⟩
end Cs

set_option Elab.async false
set_option linter.all false
set_option maxRecDepth 100000
set_option maxHeartbeats 4000000
/-! Boxes that change: what stays when the source draws, sizes that grow, lengths by a set of words. -/
namespace Cs
open PySem L2
theorem Cnt.kp {C : Addr} {H H' : Hp} {p c r d : Addr} {t : Tab} (S : Src H p c) (k : Kp p H H') (h : Cnt C H r d t) : Cnt C H' r d t := by
  obtain ⟨⟨dx, h1⟩, h2, h3, h4⟩ := h
  obtain ⟨_, _, _, _, e, _⟩ := id S
  exact ⟨⟨dx, k _ _ h1 (by rintro rfl; rw [e] at h1; cases h1)⟩, k _ _ h2 (by rintro rfl; rw [e] at h2; cases h2), h3, h4⟩
theorem Mdl.kp {H H' : Hp} {p c m : Addr} {u : Tab} (S : Src H p c) (k : Kp p H H') (h : Mdl H m u) : Mdl H' m u := by
  obtain ⟨_, _, _, _, e, _⟩ := id S
  exact ⟨k _ _ h.dc (by rintro rfl; have := h.dc; rw [e] at this; cases this), h.nd, h.wd⟩
def BN (k : Nat) (n : Int) : Prop := n.natAbs < 2 ^ k
theorem BN.log {k : Nat} {n : Int} (h : BN k n) : n.natAbs.log2 ≤ k := by
  by_cases e : n.natAbs = 0
  · rw [e]
    exact Nat.zero_le _
  · exact Nat.le_of_lt ((Nat.log2_lt e).mpr h)
theorem BN.logs {j k : Nat} {n m : Int} (h : BN j n) (h2 : BN k m) (l : j + k < 1000000) : n.natAbs.log2 + m.natAbs.log2 < 1000000 := by
  have := h.log
  have := h2.log
  omega
theorem BN.up {j k : Nat} {n : Int} (h : BN j n) (l : j ≤ k) : BN k n := Nat.lt_of_lt_of_le h (Nat.pow_le_pow_right (by decide) l)
theorem BN.add {k : Nat} {n m : Int} (h : BN k n) (h2 : BN k m) : BN (k + 1) (n + m) := by
  unfold BN at *
  rw [Nat.pow_succ]
  omega
theorem BN.neg {k : Nat} {n : Int} (h : BN k n) : BN k (-n) := by
  unfold BN at *
  rw [Int.natAbs_neg]
  exact h
theorem BN.sub {k : Nat} {n m : Int} (h : BN k n) (h2 : BN k m) : BN (k + 1) (n - m) := by
  rw [Int.sub_eq_add_neg]
  exact h.add h2.neg
theorem BN.mul {j k : Nat} {n m : Int} (h : BN j n) (h2 : BN k m) : BN (j + k) (n * m) := by
  unfold BN at *
  rw [Int.natAbs_mul, Nat.pow_add]
  exact Nat.mul_lt_mul'' h h2
theorem Small.bn {n : Int} (h : Small n) : BN 100 n := by
  have h1 := h.1
  have h2 := h.2
  have h3 : n.natAbs < 10 ^ 30 := by omega
  exact Nat.lt_trans h3 (by decide +kernel)
theorem sumOf_bn {ps : List (Str × Int)} (h : GoodPs ps) (hl : ps.length ≤ 1000) (z : Str) : BN 110 (sumOf ps z) := by
  obtain ⟨a, b⟩ := sumOf_small z h
  have : (sumOf ps z).natAbs ≤ 10 ^ 30 * 1000 := by omega
  exact Nat.lt_of_le_of_lt this (by decide +kernel)
theorem nodup_len : ∀ {zs W : List Str}, zs.Nodup → (∀ z ∈ zs, z ∈ W) → zs.length ≤ W.length
  | [], _, _, _ => Nat.zero_le _
  | z :: zs, W, nd, hs => by
    obtain ⟨n1, n2⟩ := List.nodup_cons.mp nd
    have hz := hs z List.mem_cons_self
    have ih := nodup_len (zs := zs) (W := W.erase z) n2 fun y hy => (List.mem_erase_of_ne (by rintro rfl; exact n1 hy)).mpr (hs y (List.mem_cons_of_mem _ hy))
    rw [List.length_erase_of_mem hz] at ih
    have : 0 < W.length := List.length_pos_of_mem hz
    rw [List.length_cons]
    omega
theorem tab_len {W : List Str} {u : Tab} (nd : (keys u).Nodup) (h : ∀ z ∈ keys u, z ∈ W) : u.length ≤ W.length := by
  rw [← keys_len]
  exact nodup_len nd h
/-- the words of counts are among those of their model -/
theorem held_in {t u : Tab} (h : Held t) (e : ∀ z, val t z = val u z) : ∀ z ∈ keys t, z ∈ keys u := fun z m => by
  have := (h.keys_iff z).mp m
  rw [e] at this
  exact Classical.byContradiction fun q => this (val_outK q)
/-- the five changes -/
def opM (mode n a b : Int) : Int := if mode = 0 then a + b else if mode = 1 then a - b else if mode = 2 then (if b < a then b else a) else if mode = 3 then (if b > a then b else a) else n * a
theorem opM_bn {k : Nat} {mode n a b : Int} (hn : BN 100 n) (ha : BN k a) (hb : BN k b) : BN (k + 100) (opM mode n a b) := by
  unfold opM
  split
  · exact (ha.add hb).up (by omega)
  split
  · exact (ha.sub hb).up (by omega)
  split
  · split
    · exact hb.up (by omega)
    · exact ha.up (by omega)
  split
  · split
    · exact hb.up (by omega)
    · exact ha.up (by omega)
  · rw [Nat.add_comm]
    exact hn.mul ha
theorem opM_zero (mode n : Int) : opM mode n 0 0 = 0 := by
  unfold opM
  split
  · rfl
  split
  · rfl
  split
  · rfl
  split
  · rfl
  · exact Int.mul_zero n
end Cs

set_option Elab.async false
set_option linter.all false
set_option maxRecDepth 100000
set_option maxHeartbeats 4000000
/-! Comparisons of an own class: == by its own __eq__, != by object.__ne__; dicts of words and integers compared. -/
namespace Cs
open PySem PySem.Spec PyProof.Rows L2
section
variable {M : Model} {prog : Program} {w : World} {A : Around} {E : Value → Shared → Prop} {s : Shared} {K : PySem.W.Frag} {x C f : Addr} {ox : Obj} {od : Option Obj}
theorem ifBound_objNe {args : List Value} {Q : Option Value → Shared → Prop} (X : K.In s.heap) (I : PySem.W.InstAt s.heap x ox C od) (hs : PySem.W.findIn K (.ref C) "__ne__" = some (some (.builtin "object.__ne__")))
    (h : wpAny M A (call (.builtin "object.__ne__") (.ref x :: args)) (fun v => Q (some v)) E s) : wpAny M A (callSpecialIfBound? (.ref x) "__ne__" args) Q E s := by
  simp only [callSpecialIfBound?, bindSpecialIfBound?]
  refine wpAny_holding (wpAny_bind (wpAny_bind (wpAny_bind (I.type.here ((PySem.W.looks_findIn X hs).here ?_)))))
  refine wpAny_bind (wpAny_askSetting (wpAny_ite ?_))
  have fin : wpAny M A (call (.builtin "object.__ne__") ([.ref x] ++ args) >>= fun v => pure (some v)) Q E s := wpAny_bind (wpAny_mono h (fun v s' h' => wpAny_pure h') fun _ _ h' => h')
  split
  · exact wpAny_bind (wpAny_of_eq (F.cmp_object.ne.bind _) (wpAny_pure (by exact fin)))
  · exact wpAny_tryCatch (wpAny_bind (wpAny_of_eq (F.cmp_object.ne.bind _) (wpAny_pure (by exact fin))))
theorem objNe_own {b : Value} {Q : Fin → Shared → Prop} (hu : A.units < cLine) (X : K.In s.heap) (I : PySem.W.InstAt s.heap x ox C od) (hs : PySem.W.findIn K (.ref C) "__eq__" = some (some (.ref f))) (hf : PySem.W.isFn K (.ref f) = true)
    (h : wpAny (model prog w) A (call (.ref f) [.ref x, b]) (fun v s' => ∃ k, v = .bool k ∧ Q (.done (.ret (.bool (!k)))) s') E s) : wpAny (model prog w) A (Builtin.«object.__ne__» ⟨[.ref x, b], []⟩) Q E s := by
  unfold Builtin.«object.__ne__»
  repeat (first
    | with_reducible refine wpAny_cRoomFor hu ?_
    | (refine wpAny_bind (m := callSpecialIfBound? (.ref x) (Str.ofString "__eq__") [b])
        (PySem.W.ifBound_K X I hs hf (wpAny_mono h (fun r s' hr => by
          obtain ⟨b, rfl, hq⟩ := hr
          repeat (first | exact hq | exact wpAny_pure hq | exact wpAny_truthy_bool hq | (refine wpAny_bind (m := truthy (.bool _)) (wpAny_truthy_bool ?_)) | wp_step)) fun _ _ e => e)))
    | wp_step)
theorem call_objNe {b : Value} {Q : Value → Shared → Prop} (hu : A.units + 1 < cLine) (X : K.In s.heap) (I : PySem.W.InstAt s.heap x ox C od) (hm : PySem.W.mroIn K C (.type "object") = some true) (hs : PySem.W.findIn K (.ref C) "__eq__" = some (some (.ref f))) (hf : PySem.W.isFn K (.ref f) = true)
    (h : wpAny (model prog w) A.in1 (call (.ref f) [.ref x, b]) (fun v s' => ∃ k, v = .bool k ∧ Q (.bool (!k)) s') E s) : wpAny (model prog w) A (call (.builtin "object.__ne__") [.ref x, b]) Q E s :=
  wpAny_call (codeAny_call_builtin F.cmp_object.ne.plain F.cmpEntry_ne (PySem.W.check_slot F.cmpKind_ne F.cmpSplit_ne (I.type.andThen (PySem.W.looks_mroIn X hm)) (F.cmpArgs_ne _ _) (objNe_own (A := A.in1) hu X I hs hf (wpAny_mono h (fun v s' z => by
    obtain ⟨k, rfl, q⟩ := z
    exact ⟨k, rfl, q⟩) fun _ _ e => e))))
theorem ne_own {b tb : Value} {Q : Value → Shared → Prop} (hu : A.units + 1 < cLine) (X : K.In s.heap) (I : PySem.W.InstAt s.heap x ox C od) (hb : PySem.W.Looks (model prog w) s.heap (typeOf b) tb) (hn : PySem.W.notFirst K C tb = true)
    (hm : PySem.W.mroIn K C (.type "object") = some true) (hne : PySem.W.findIn K (.ref C) "__ne__" = some (some (.builtin "object.__ne__"))) (hs : PySem.W.findIn K (.ref C) "__eq__" = some (some (.ref f))) (hf : PySem.W.isFn K (.ref f) = true)
    (h : wpAny (model prog w) A.in1 (call (.ref f) [.ref x, b]) (fun v s' => ∃ k, v = .bool k ∧ Q (.bool (!k)) s') E s) : wpAny (model prog w) A (compareOp .NotEq (.ref x) b) Q E s := by
  have one : wpAny (model prog w) A (tryCompare (.ref x) "__ne__" b) (fun r s' => ∃ v, r = some v ∧ Q v s') E s := by
    unfold tryCompare
    refine wpAny_bind (ifBound_objNe X I hne (call_objNe hu X I hm hs hf (wpAny_mono h (fun v s' z => ?_) fun _ _ e => e)))
    obtain ⟨k, rfl, q⟩ := z
    exact ⟨k, rfl, wpAny_pure ⟨_, rfl, q⟩⟩
  show wpAny (model prog w) A (richCompare .NotEq (.ref x) b) Q E s
  unfold richCompare
  simp only [oneThing_ref]
  refine wpAny_holding (wpAny_bind (wpAny_cRoomFor (Nat.lt_of_succ_lt hu) ?_))
  refine wpAny_bind (I.type.here (wpAny_bind (hb.here ?_)))
  split
  · rename_i q
    have e : PySem.W.subIn K tb (.ref C) = some false := by
      rcases Bool.or_eq_true_iff.mp hn with e | e
      · rw [beq_iff_eq.mp e] at q; simp at q
      · exact beq_iff_eq.mp e
    refine wpAny_bind ((PySem.W.looks_subIn X e).here ?_)
    simp only [Bool.false_eq_true, if_false]
    refine wpAny_bind (wpAny_mono one (fun r s' z => ?_) fun _ _ e => e)
    obtain ⟨v, rfl, hq⟩ := z
    exact wpAny_pure hq
  · refine wpAny_bind (wpAny_pure ?_)
    simp only [Bool.false_eq_true, if_false]
    refine wpAny_bind (wpAny_mono one (fun r s' z => ?_) fun _ _ e => e)
    obtain ⟨v, rfl, hq⟩ := z
    exact wpAny_pure hq
end
section
variable {X : Cx} {CX : CXT} {k : Nat} {f C : Addr} {fd : FuncData} {ps : List Str} {sp : Sp} {E : XK}
/-- what == and != ask of the class -/
structure EqC (K : PySem.W.Frag) (C f : Addr) : Prop where
  at_ : PySem.W.findIn K (.ref C) "__eq__" = some (some (.ref f))
  fn : PySem.W.isFn K (.ref f) = true
  ne : PySem.W.findIn K (.ref C) "__ne__" = some (some (.builtin "object.__ne__"))
  hm : PySem.W.mroIn K C (.type "object") = some true
theorem first_self {K : PySem.W.Frag} : PySem.W.notFirst K C (.ref C) = true := by simp [PySem.W.notFirst]
def rEqO (C : Addr) (sp : Sp) (E : XK) : R2 := fun x y H Q => ∃ p q dp dq fp fq, x = .ref p ∧ y = .ref q ∧ H p = some (.ins C dp fp) ∧ H q = some (.ins C dq fq) ∧ sp [.ref p, .ref q] H Q E
def rNeO (C : Addr) (sp : Sp) (E : XK) : R2 := fun x y H Q => ∃ p q dp dq fp fq, x = .ref p ∧ y = .ref q ∧ H p = some (.ins C dp fp) ∧ H q = some (.ins C dq fq) ∧ sp [.ref p, .ref q] H (fun v H' => ∃ b, v = .bl b ∧ Q (.bl (!b)) H') E
theorem op_eqO (c : EqC X.K C f) (F : FnOk X.prog X.w X.K X.mg X.base CX k f fd ps sp) (hr : Room k X.A) (hb : Binds X.K fd ps []) (hx : Passes CX X E) : OpR X (compareOp .Eq) (rEqO C sp E) := by
  intro pins s σ H x y v u Q I rx ry h
  obtain ⟨p, q, dp, dq, fp, fq, rfl, rfl, hp, hq, k⟩ := h
  cases rx
  cases ry
  obtain ⟨ox, od, J, _⟩ := ins_inst I hp
  obtain ⟨oy, oe, J2, _⟩ := ins_inst I hq
  obtain ⟨m, Fr⟩ := I.fr
  show wpAny _ _ (richCompare .Eq (.ref p) (.ref q)) _ _ _
  refine PySem.W.cmp_K (op := .Eq) (tb := .ref C) hr.units0 Fr I.ok.mod.kin J J2.type first_self c.at_ c.fn ?_
  exact wpAny_mono (run_fn (us := [.ref p, .ref q]) (vs := [.ref p, .ref q]) (dvs := []) F hr hb .nil hx I (.cons rfl (.cons rfl .nil)) k) (fun v s' z => back_of z) fun _ _ z => z
theorem op_neO (c : EqC X.K C f) (F : FnOk X.prog X.w X.K X.mg X.base CX k f fd ps sp) (hr : Room (k + 1) X.A) (hb : Binds X.K fd ps []) (hx : Passes CX X E) : OpR X (compareOp .NotEq) (rNeO C sp E) := by
  intro pins s σ H x y v u Q I rx ry h
  obtain ⟨p, q, dp, dq, fp, fq, rfl, rfl, hp, hq, k⟩ := h
  cases rx
  cases ry
  obtain ⟨ox, od, J, _⟩ := ins_inst I hp
  obtain ⟨oy, oe, J2, _⟩ := ins_inst I hq
  refine ne_own (hu_of hr) I.kIn J J2.type first_self c.hm c.ne c.at_ c.fn ?_
  refine wpAny_mono (run_fn1 (us := [.ref p, .ref q]) (vs := [.ref p, .ref q]) F hr hb hx I (.cons rfl (.cons rfl .nil)) k) (fun v s' z => ?_) fun _ _ z => z
  obtain ⟨v', H', I', rv, b, rfl, qq⟩ := z
  cases rv
  exact ⟨b, rfl, .bl (!b), H', I', rfl, qq⟩
end
/-! ### dicts of words and integers -/
def allIn (t u : Tab) : Bool := t.all fun q => decide (look u q.1 = some q.2)
theorem hits_tab {A : Around} {s : Shared} {u : Tab} {vb : List (Key × Value)} (rb : KV (tv u) vb) : ∀ {t : Tab} {va : List (Key × Value)}, KV (tv t) va → PySem.W.KeqHits A s vb va (allIn t u)
  | [], _, .nil => .nil
  | q :: t, (k, v) :: va, .cons ⟨h1, h2⟩ r => by
    have h1' : (Sum.inr q.1 : Key) = k := h1
    obtain ⟨tk, rfl⟩ : ∃ tk, v = Value.int q.2 tk := h2
    subst h1'
    have rr : RelO (valV (tv u) (Sum.inr q.1)) (valueAt vb (Sum.inr q.1)) := rb.val _
    rw [tv_val] at rr
    have e : allIn (q :: t) u = (decide (look u q.1 = some q.2) && allIn t u) := rfl
    rw [e]
    cases hl : look u q.1 with
    | none =>
      rw [hl] at rr
      rw [show decide ((none : Option Int) = some q.2) = false from rfl, Bool.false_and]
      exact .miss (by cases hv : valueAt vb (Sum.inr q.1 : Key) with
        | none => rfl
        | some y => rw [hv] at rr; exact absurd rr (by intro z; cases z))
    | some n =>
      rw [hl] at rr
      obtain ⟨y, hy, ry⟩ := RelO.some_of rr
      obtain ⟨tk2, rfl⟩ : ∃ tk, y = Value.int n tk := ry
      have e2 : decide (some n = some q.2) = (q.2 == n) := by
        by_cases c : q.2 = n
        · rw [c]
          simp
        · rw [decide_eq_false (fun z => c (Option.some.inj z).symm)]
          exact (beq_eq_false_iff_ne.mpr c).symm
      rw [e2]
      exact .hit hy (SeqAt.EqAt.int_int _ _ _ _) (hits_tab rb r)
section
variable {X : Cx}
def rEqT : R2 := fun x y H Q => ∃ a b t u, x = .ref a ∧ y = .ref b ∧ H a = some (.dK (tv t)) ∧ H b = some (.dK (tv u)) ∧ Q (.bl (t.length == u.length && allIn t u)) H
def rNeT : R2 := fun x y H Q => ∃ a b t u, x = .ref a ∧ y = .ref b ∧ H a = some (.dK (tv t)) ∧ H b = some (.dK (tv u)) ∧ Q (.bl (!(t.length == u.length && allIn t u))) H
theorem op_eqT (hu : X.A.units < cLine) : OpR X (compareOp .Eq) rEqT := by
  intro pins s σ H x y v u Q I rx ry h
  obtain ⟨a, b, t, u', rfl, rfl, ea, eb, q⟩ := h
  obtain rfl : v = Value.ref a := rx
  obtain rfl : u = Value.ref b := ry
  obtain ⟨_, ya, va, ra, da⟩ := (show ObjOk X.prog X.w H s.heap a (.dK (tv t)) from I.hok a _ ea)
  obtain ⟨_, yb, vb, rb, db⟩ := (show ObjOk X.prog X.w H s.heap b (.dK (tv u')) from I.hok b _ eb)
  have h1 : va.length = t.length := by rw [← ra.length]; exact tv_len t
  have h2 : vb.length = u'.length := by rw [← rb.length]; exact tv_len u'
  exact PySem.W.keq_eq (knd := mixKind X.prog X.w) (r := allIn t u') ya yb da db hu (fun _ => hits_tab rb ra) (fin_bl I q (by rw [h1, h2]))
theorem op_neT (hu : X.A.units < cLine) : OpR X (compareOp .NotEq) rNeT := by
  intro pins s σ H x y v u Q I rx ry h
  obtain ⟨a, b, t, u', rfl, rfl, ea, eb, q⟩ := h
  obtain rfl : v = Value.ref a := rx
  obtain rfl : u = Value.ref b := ry
  obtain ⟨_, ya, va, ra, da⟩ := (show ObjOk X.prog X.w H s.heap a (.dK (tv t)) from I.hok a _ ea)
  obtain ⟨_, yb, vb, rb, db⟩ := (show ObjOk X.prog X.w H s.heap b (.dK (tv u')) from I.hok b _ eb)
  have h1 : va.length = t.length := by rw [← ra.length]; exact tv_len t
  have h2 : vb.length = u'.length := by rw [← rb.length]; exact tv_len u'
  exact PySem.W.keq_ne (knd := mixKind X.prog X.w) (r := allIn t u') ya yb da db hu (fun _ => hits_tab rb ra) (fin_bl I q (by rw [h1, h2]))
end
end Cs

set_option Elab.async false
set_option linter.all false
set_option maxRecDepth 100000
set_option maxHeartbeats 4000000
/-! Counts compared. -/
namespace Cs
open PySem L2
theorem same_tab {t u : Tab} (ht : Held t) (hu : Held u) : ((t.length == u.length && allIn t u) = true) ↔ ∀ z, val t z = val u z := by
  rw [Bool.and_eq_true, beq_iff_eq]
  unfold allIn
  rw [List.all_eq_true]
  constructor
  · rintro ⟨hl, ha⟩ z
    have sub : ∀ z ∈ keys t, z ∈ keys u := fun z hz => by
      obtain ⟨n, _, hm⟩ := look_some hz
      have := of_decide_eq_true (ha _ hm)
      exact Classical.byContradiction fun q => by rw [look_none q] at this; cases this
    by_cases c : z ∈ keys t
    · obtain ⟨n, hn, hm⟩ := look_some c
      have := of_decide_eq_true (ha _ hm)
      unfold val
      rw [hn, this]
    · have c2 : z ∉ keys u := fun q => by
        have := nodup_len (zs := z :: keys t) (W := keys u) (List.nodup_cons.mpr ⟨c, ht.nd⟩) fun y hy => (List.mem_cons.mp hy).elim (fun e => e ▸ q) (sub y)
        rw [List.length_cons, keys_len, keys_len] at this
        omega
      rw [val_outK c, val_outK c2]
  · intro h
    refine ⟨?_, fun q hq => decide_eq_true ?_⟩
    · have h1 := nodup_len (zs := keys t) (W := keys u) ht.nd fun z hz => (hu.keys_iff z).mpr (h z ▸ (ht.keys_iff z).mp hz)
      have h2 := nodup_len (zs := keys u) (W := keys t) hu.nd fun z hz => (ht.keys_iff z).mpr ((h z).symm ▸ (hu.keys_iff z).mp hz)
      rw [keys_len, keys_len] at h1 h2
      omega
    · have hz : q.1 ∈ keys u := by
        rw [hu.keys_iff, ← h]
        exact (ht.keys_iff _).mp (List.mem_map.mpr ⟨q, hq, rfl⟩)
      obtain ⟨n, hn, _⟩ := look_some hz
      have h1 := look_mem ht.nd (show (q.1, q.2) ∈ t from hq)
      have h2 := h q.1
      unfold val at h2
      rw [h1, hn] at h2
      rw [hn]
      exact congrArg some (show n = q.2 from h2.symm)
structure EDef (P : Program) (w : World) (K : PySem.W.Frag) (mg : Str → Option Value) (base : Heap) (CX : CXT) (k : Nat) (C : Addr) (ps : List Str) (sp : Sp) (f : Addr) (fd : FuncData) : Prop where
  c : EqC K C f
  ok : FnOk P w K mg base CX k f fd ps sp
  b : Binds K fd ps []
def spEq (C : Addr) : Sp := fun vs H Q _ => ∃ (p d q e : Addr) (t u : Tab), vs = [.ref p, .ref q] ∧ Cnt C H p d t ∧ Cnt C H q e u ∧ ∀ b : Bool, (b = true ↔ ∀ z, val t z = val u z) → Q (.bl b) H
section
variable {P : Program} {w : World} {K : PySem.W.Frag} {mg : Str → Option Value} {base : Heap}
theorem ok_eq {C f : Addr} {fd : FuncData} {fI : Addr} (F : Fun K "__eq__" "Counts.__eq__" s_Counts_eq f fd) (g : Bi mg) (T : CT P w K mg base C fI) (ci : CI K C) : FnOk P w K mg base CX0 1 f fd ["self", "other"] (spEq C) := by
  refine F.ok sc_Counts_eq (fun vs H Q E h => ?_) (fun cdv A outer s H vs Q E hr h => ?_)
  · obtain ⟨_, _, _, _, _, _, rfl, _⟩ := h
    rfl
  · obtain ⟨p, d, q, e, t, u, rfl, hc, hc2, k⟩ := h
    have hu := hu_of hr
    have hu0 := Nat.lt_of_succ_lt hu
    refine ⟨_, (pss_one (ps_ret (pe_and (pe_callB call_isi (by rfl) g.isinstance (by decide +kernel) (pa_cons (pv 1) (pa_cons (pe_glob (v := .ref C) rfl T.mgC rfl) pa_nil))) (pe_one (pe_cmpR (op_eqT hu0) (pe_fld (pv 0) rfl) (pe_fld (pv 1) rfl) (nomark _)))))), ?_⟩
    obtain ⟨⟨dx, hp⟩, hd, hh, _⟩ := id hc
    obtain ⟨⟨dx2, hq⟩, hd2, hh2, _⟩ := id hc2
    refine ⟨_, rfl, _, _, _, _, true, rfl, .own C, ci.ty hq, kit_self, _, rfl, iteT ?_⟩
    refine ⟨_, rfl, p, C, dx, _, _, rfl, hp, T.cl, T.nH, flds_held d, _, rfl, q, C, dx2, _, _, rfl, hq, T.cl, T.nH, flds_held e, ?_⟩
    exact ⟨d, e, t, u, rfl, rfl, hd, hd2, k _ (same_tab hh hh2)⟩
end
end Cs

set_option Elab.async false
set_option linter.all false
set_option maxRecDepth 100000
set_option maxHeartbeats 4000000
/-! Counts and models by their values alone; the operators at that level; rows of counts. -/
namespace Cs
open PySem L2
/-- counts at r with their dict at e: values F, at most n words -/
def Cv (n : Nat) (C : Addr) (H : Hp) (r e : Addr) (F : Str → Int) : Prop := ∃ t, Cnt C H r e t ∧ t.length ≤ n ∧ ∀ z, val t z = F z
def Mv (n : Nat) (H : Hp) (m : Addr) (F : Str → Int) : Prop := ∃ u, Mdl H m u ∧ u.length ≤ n ∧ ∀ z, val u z = F z
section
variable {n m : Nat} {C : Addr} {H H' : Hp} {p q d e r x : Addr} {F F1 F2 : Str → Int} {E : XK} {Q : VK} {G : Int → Int → Int} {G1 : Int → Int}
theorem Cv.same (s : Same H H') (h : Cv n C H r e F) : Cv n C H' r e F := by
  obtain ⟨t, a, b, c⟩ := h
  exact ⟨t, a.same s, b, c⟩
theorem Mv.same (s : Same H H') (h : Mv n H x F) : Mv n H' x F := by
  obtain ⟨t, a, b, c⟩ := h
  exact ⟨t, a.same s, b, c⟩
theorem Cv.up (h : Cv n C H r e F) (l : n ≤ m) : Cv m C H r e F := by
  obtain ⟨t, a, b, c⟩ := h
  exact ⟨t, a, Nat.le_trans b l, c⟩
theorem Cv.congr (h : Cv n C H r e F1) (k : ∀ z, F1 z = F2 z) : Cv n C H r e F2 := by
  obtain ⟨t, a, b, c⟩ := h
  exact ⟨t, a, b, fun z => (c z).trans (k z)⟩
theorem Mv.congr (h : Mv n H x F1) (k : ∀ z, F1 z = F2 z) : Mv n H x F2 := by
  obtain ⟨t, a, b, c⟩ := h
  exact ⟨t, a, b, fun z => (c z).trans (k z)⟩
theorem Cv.kp {c : Addr} (S : Src H p c) (k : Kp p H H') (h : Cv n C H r e F) : Cv n C H' r e F := by
  obtain ⟨t, a, b, c⟩ := h
  exact ⟨t, a.kp S k, b, c⟩
theorem Mv.kp {c : Addr} (S : Src H p c) (k : Kp p H H') (h : Mv n H x F) : Mv n H' x F := by
  obtain ⟨t, a, b, c⟩ := h
  exact ⟨t, a.kp S k, b, c⟩
theorem Cv.at (h : Cv n C H r e F) : ∃ o, H e = some (.dK o) := by
  obtain ⟨t, a, _⟩ := h
  exact ⟨_, a.dc⟩
theorem Cv.ob (h : Cv n C H r e F) : ∃ dx fs, H r = some (.ins C dx fs) := by
  obtain ⟨t, ⟨⟨dx, a⟩, _⟩, _⟩ := h
  exact ⟨dx, _, a⟩
theorem Mv.at (h : Mv n H x F) : ∃ o, H x = some (.dK o) := by
  obtain ⟨t, a, _⟩ := h
  exact ⟨_, a.dc⟩
/-- what stays when the dict at e is changed -/
theorem Cv.keep {o : List (Key × V)} (he : H e = some (.dK o)) (kk : ∀ b o, H b = some o → b ≠ e → H' b = some o) (h : Cv n C H r d F) (n1 : d ≠ e) : Cv n C H' r d F := by
  obtain ⟨t, a, b, c⟩ := h
  exact ⟨t, Cnt.keep he kk a n1, b, c⟩
theorem Mv.keep (kk : ∀ b o, H b = some o → b ≠ e → H' b = some o) (h : Mv n H x F) (n1 : x ≠ e) : Mv n H' x F := by
  obtain ⟨t, a, b, c⟩ := h
  exact ⟨t, Mdl.keep kk a n1, b, c⟩
def NewV (n : Nat) (C : Addr) (H : Hp) (Q : VK) (F : Str → Int) : Prop := ∀ (r e : Addr) (H' : Hp), H r = none → H e = none → Same H H' → Cv n C H' r e F → Q (.ref r) H'
theorem NewV.of (k : NewV n C H Q F) : NewC C H Q F n := fun r e H' u hr he s hc hv hl => k r e H' hr he s ⟨u, hc, hl, hv⟩
theorem cv_bin (h1 : Cv n C H p d F1) (h2 : Cv m C H q e F2) (hn : n ≤ 400) (hm : m ≤ 400) (k : NewV (n + m) C H Q (fun z => G (F1 z) (F2 z))) : rBinO C (spBin C G) E (.ref p) (.ref q) H Q := by
  obtain ⟨t, a, b, c⟩ := h1
  obtain ⟨t2, a2, b2, c2⟩ := h2
  obtain ⟨⟨dx, hp⟩, _⟩ := id a
  obtain ⟨⟨dx2, hq⟩, _⟩ := id a2
  refine ⟨p, q, _, _, _, _, rfl, rfl, hp, hq, p, d, q, e, t, t2, rfl, a, a2, by omega, by omega, fun r e' H' u hr he s hc hv hl => k r e' H' hr he s ⟨u, hc, by omega, fun z => ?_⟩⟩
  rw [hv]
  dsimp only
  rw [c, c2]
theorem cv_neg (h1 : Cv n C H p d F1) (hn : n ≤ 1000) (k : NewV n C H Q (fun z => G1 (F1 z))) : rNegO C (spUn C G1) E (.ref p) H Q := by
  obtain ⟨t, a, b, c⟩ := h1
  obtain ⟨⟨dx, hp⟩, _⟩ := id a
  refine ⟨p, _, _, rfl, hp, p, d, t, rfl, a, by omega, fun r e' H' u hr he s hc hv hl => k r e' H' hr he s ⟨u, hc, by omega, fun z => ?_⟩⟩
  rw [hv]
  dsimp only
  rw [c]
theorem cv_abs (h1 : Cv n C H p d F1) (hn : n ≤ 1000) (k : NewV n C H Q (fun z => G1 (F1 z))) : rAbsO C (spUn C G1) E [.ref p] H Q := by
  obtain ⟨t, a, b, c⟩ := h1
  obtain ⟨⟨dx, hp⟩, _⟩ := id a
  refine ⟨p, _, _, rfl, hp, p, d, t, rfl, a, by omega, fun r e' H' u hr he s hc hv hl => k r e' H' hr he s ⟨u, hc, by omega, fun z => ?_⟩⟩
  rw [hv]
  dsimp only
  rw [c]
theorem cv_mul {i : Int} (h1 : Cv n C H p d F1) (hn : n ≤ 1000) (hb : ∀ z, i.natAbs.log2 + (F1 z).natAbs.log2 < 1000000) (k : NewV n C H Q (fun z => i * F1 z)) : rBinI C (spMul C) E (.ref p) (.int i) H Q := by
  obtain ⟨t, a, b, c⟩ := h1
  obtain ⟨⟨dx, hp⟩, _⟩ := id a
  refine ⟨p, _, _, i, rfl, rfl, hp, p, d, t, i, rfl, a, by omega, fun z => by rw [c]; exact hb z, fun r e' H' u hr he s hc hv hl => k r e' H' hr he s ⟨u, hc, by omega, fun z => ?_⟩⟩
  rw [hv]
  dsimp only
  rw [c]
theorem cv_mulR {i : Int} (h1 : Cv n C H p d F1) (hn : n ≤ 1000) (hb : ∀ z, i.natAbs.log2 + (F1 z).natAbs.log2 < 1000000) (k : NewV n C H Q (fun z => i * F1 z)) : rMulR C (spMul C) E (.int i) (.ref p) H Q := by
  obtain ⟨t, a, b, c⟩ := h1
  obtain ⟨⟨dx, hp⟩, _⟩ := id a
  refine ⟨p, _, _, i, rfl, rfl, hp, p, d, t, i, rfl, a, by omega, fun z => by rw [c]; exact hb z, fun r e' H' u hr he s hc hv hl => k r e' H' hr he s ⟨u, hc, by omega, fun z => ?_⟩⟩
  rw [hv]
  dsimp only
  rw [c]
theorem cv_equal (h1 : Cv n C H p d F1) (h2 : Mv m H x F2) (hn : n ≤ 1000) (hm : m ≤ 63) (hF : ∀ z, F1 z = F2 z) (k : ∀ H', Same H H' → Q (.bl true) H') : spEqual C [.ref p, .ref x] H Q E := by
  obtain ⟨t, a, b, c⟩ := h1
  obtain ⟨u, a2, b2, c2⟩ := h2
  exact ⟨p, d, x, t, u, rfl, a, by omega, a2, by omega, fun z => by rw [c, c2, hF], k⟩
theorem cv_ne (h1 : Cv n C H p d F1) (h2 : Cv m C H q e F2) (hF : ∀ z, F1 z = F2 z) (k : Q (.bl false) H) : rNeO C (spEq C) E (.ref p) (.ref q) H Q := by
  obtain ⟨t, a, b, c⟩ := h1
  obtain ⟨u, a2, b2, c2⟩ := h2
  obtain ⟨⟨dx, hp⟩, _⟩ := id a
  obtain ⟨⟨dx2, hq⟩, _⟩ := id a2
  refine ⟨p, q, _, _, _, _, rfl, rfl, hp, hq, p, d, q, e, t, u, rfl, a, a2, fun b hb => ⟨b, rfl, ?_⟩⟩
  rw [hb.mpr fun z => by rw [c, c2, hF]]
  exact k
theorem cv_eq (h1 : Cv n C H p d F1) (h2 : Cv m C H q e F2) (k : ∀ b : Bool, (b = true ↔ ∀ z, F1 z = F2 z) → Q (.bl b) H) : rEqO C (spEq C) E (.ref p) (.ref q) H Q := by
  obtain ⟨t, a, b, c⟩ := h1
  obtain ⟨u, a2, b2, c2⟩ := h2
  obtain ⟨⟨dx, hp⟩, _⟩ := id a
  obtain ⟨⟨dx2, hq⟩, _⟩ := id a2
  refine ⟨p, q, _, _, _, _, rfl, rfl, hp, hq, p, d, q, e, t, u, rfl, a, a2, fun b hb => k b ?_⟩
  rw [hb]
  exact ⟨fun h z => by rw [← c, ← c2, h], fun h z => by rw [c, c2, h]⟩
/-- C() -/
theorem cv_empty (x dx : Addr) (hx : H x = none) (hdx : H dx = none) (k : ∀ e H', H e = none → Same H H' → Cv 0 C H' x e (fun _ => 0) → Q .non H') : spInit C [.ref x] (upd (upd H dx (.own x)) x (.ins C dx [])) Q E := by
  have sMk := made (C := C) hx hdx
  refine ⟨x, dx, [], [], rfl, upd_same, .nil, by show 0 ≤ 1000; decide, (fun _ h => nomatch h), fun e H' he hc kp => ?_⟩
  exact k e H' (sMk.free he) (fun b o e1 => kp b o (sMk _ _ e1) (ne_of_none e1 hx)) ⟨_, hc, Nat.zero_le _, fun _ => rfl⟩
end
theorem tNil_it {σ : L2.St} {H : Hp} {k : List V → Hp → Prop} (h : k [] H) : tNil σ H k := h
/-! rows of counts -/
def RcOk (n : Nat) (C : Addr) (H : Hp) (x : V) (e : Addr) : Prop := ∃ r F, x = .ref r ∧ Cv n C H r e F
structure RCs (n : Nat) (C : Addr) (S : List Addr) (H : Hp) (xs : List V) (es : List Addr) : Prop where
  ok : Paired (RcOk n C H) xs es
  pw : es.Pairwise (· ≠ ·)
  own : ∀ e ∈ es, e ∉ S
  ex : ∀ s ∈ S, ∃ o, H s = some o
section
variable {n : Nat} {C : Addr} {S : List Addr} {H H' : Hp} {xs : List V} {es : List Addr}
theorem RcOk.same {x : V} {e : Addr} (s : Same H H') (h : RcOk n C H x e) : RcOk n C H' x e := by
  obtain ⟨r, F, a, b⟩ := h
  exact ⟨r, F, a, b.same s⟩
theorem RCs.same (s : Same H H') (h : RCs n C S H xs es) : RCs n C S H' xs es := ⟨L2.Paired.mapP h.ok fun _ _ r => r.same s, h.pw, h.own, fun b m => by
  obtain ⟨o, e⟩ := h.ex b m
  exact ⟨o, s _ _ e⟩⟩
theorem rcs_at : ∀ {xs : List V} {es : List Addr}, Paired (RcOk n C H) xs es → ∀ e ∈ es, ∃ o, H e = some o
  | _, _, .nil, _, h => nomatch h
  | _, _, .cons r t, e, h => by
    rcases List.mem_cons.mp h with q | q
    · subst q
      obtain ⟨r, F, _, c⟩ := r
      obtain ⟨o, a⟩ := c.at
      exact ⟨_, a⟩
    · exact rcs_at t e q
theorem RCs.nil (h : ∀ s ∈ S, ∃ o, H s = some o) : RCs n C S H [] [] := ⟨.nil, .nil, (fun _ h => nomatch h), h⟩
theorem RCs.snoc {r e : Addr} {F : Str → Int} (h : RCs n C S H xs es) (s : Same H H') (f1 : H e = none) (c : Cv n C H' r e F) : RCs n C S H' (xs ++ [.ref r]) (es ++ [e]) := by
  have hS := h.same s
  refine ⟨pair_snoc hS.ok ⟨r, F, rfl, c⟩, ?_, ?_, hS.ex⟩
  · rw [List.pairwise_append]
    refine ⟨h.pw, List.pairwise_singleton _ _, fun a ha b hb => ?_⟩
    rw [List.mem_singleton.mp hb]
    obtain ⟨_, h1⟩ := rcs_at h.ok a ha
    exact ne_of_none h1 f1
  · intro a ha
    rcases List.mem_append.mp ha with qa | qa
    · exact h.own a qa
    · rw [List.mem_singleton.mp qa]
      intro q
      obtain ⟨o, e'⟩ := h.ex _ q
      exact ne_of_none e' f1 rfl
theorem rcs_step {e : Addr} {o : List (Key × V)} (he : H e = some (.dK o)) (kk : ∀ b o, H b = some o → b ≠ e → H' b = some o) : ∀ {xs : List V} {es : List Addr}, Paired (RcOk n C H) xs es → (∀ b ∈ es, e ≠ b) → Paired (RcOk n C H') xs es
  | _, _, .nil, _ => .nil
  | _, _, .cons hr tl, hd => by
    refine .cons ?_ (rcs_step he kk tl fun b hb => hd b (List.mem_cons_of_mem _ hb))
    obtain ⟨r, F, a, c⟩ := hr
    exact ⟨r, F, a, c.keep he kk (hd _ List.mem_cons_self).symm⟩
end
end Cs

set_option Elab.async false
set_option linter.all false
set_option maxRecDepth 100000
set_option maxHeartbeats 4000000
/-! Order of an own class: <= < by its own methods, >= > by those of the other side; == and != with a value of a built-in type. -/
namespace Cs
open PySem PySem.Spec PyProof.Rows L2
section
variable {M : Model} {prog : Program} {w : World} {A : Around} {E : Value → Shared → Prop} {s : Shared} {K : PySem.W.Frag} {x y C f : Addr} {ox oy : Obj} {od oe : Option Obj}
theorem ifBound_obj {nm : Str} {id : String} {args : List Value} {Q : Option Value → Shared → Prop} (S : Slot "object" nm id) (X : K.In s.heap) (I : PySem.W.InstAt s.heap x ox C od) (hs : PySem.W.findIn K (.ref C) nm = some (some (.builtin id)))
    (h : wpAny M A (call (.builtin id) (.ref x :: args)) (fun v => Q (some v)) E s) : wpAny M A (callSpecialIfBound? (.ref x) nm args) Q E s := by
  simp only [callSpecialIfBound?, bindSpecialIfBound?]
  refine wpAny_holding (wpAny_bind (wpAny_bind (wpAny_bind (I.type.here ((PySem.W.looks_findIn X hs).here ?_)))))
  refine wpAny_bind (wpAny_askSetting (wpAny_ite ?_))
  have fin : wpAny M A (call (.builtin id) ([.ref x] ++ args) >>= fun v => pure (some v)) Q E s := wpAny_bind (wpAny_mono h (fun v s' h' => wpAny_pure h') fun _ _ h' => h')
  split
  · exact wpAny_bind (wpAny_of_eq (S.bind _) (wpAny_pure (by exact fin)))
  · exact wpAny_tryCatch (wpAny_bind (wpAny_of_eq (S.bind _) (wpAny_pure (by exact fin))))
theorem kind_ge : builtinKind "object.__ge__" = some .slot := by decide +kernel
theorem kind_gt : builtinKind "object.__gt__" = some .slot := by decide +kernel
theorem split_ge : splitId "object.__ge__" = some ("object", "__ge__") := by decide +kernel
theorem split_gt : splitId "object.__gt__" = some ("object", "__gt__") := by decide +kernel
theorem try_ge {b : Value} {Q : Option Value → Shared → Prop} (X : K.In s.heap) (I : PySem.W.InstAt s.heap x ox C od) (hm : PySem.W.mroIn K C (.type "object") = some true) (hs : PySem.W.findIn K (.ref C) "__ge__" = some (some (.builtin "object.__ge__"))) (h : Q none s) :
    wpAny (model prog w) A (tryCompare (.ref x) "__ge__" b) Q E s := by
  unfold tryCompare
  refine wpAny_bind (ifBound_obj PySem.F.slot_object_ge X I hs (wpAny_call (codeAny_call_builtin PySem.F.slot_object_ge.plain PySem.F.entry_object_ge (PySem.W.check_slot kind_ge split_ge (I.type.andThen (PySem.W.looks_mroIn X hm)) (PySem.F.args_object_ge_2 _ _) ?_))))
  show wpAny _ _ (slotArgs "__ge__" 1 ⟨[.ref x, b], []⟩ >>= fun _ => ret .notImplemented) _ _ _
  refine wpAny_bind (wpAny_of_eq (a := (.ref x, [b])) (by rfl) ?_)
  refine wpAny_pure ?_
  exact wpAny_pure h
theorem try_gt {b : Value} {Q : Option Value → Shared → Prop} (X : K.In s.heap) (I : PySem.W.InstAt s.heap x ox C od) (hm : PySem.W.mroIn K C (.type "object") = some true) (hs : PySem.W.findIn K (.ref C) "__gt__" = some (some (.builtin "object.__gt__"))) (h : Q none s) :
    wpAny (model prog w) A (tryCompare (.ref x) "__gt__" b) Q E s := by
  unfold tryCompare
  refine wpAny_bind (ifBound_obj PySem.F.slot_object_gt X I hs (wpAny_call (codeAny_call_builtin PySem.F.slot_object_gt.plain PySem.F.entry_object_gt (PySem.W.check_slot kind_gt split_gt (I.type.andThen (PySem.W.looks_mroIn X hm)) (PySem.F.args_object_gt_2 _ _) ?_))))
  show wpAny _ _ (slotArgs "__gt__" 1 ⟨[.ref x, b], []⟩ >>= fun _ => ret .notImplemented) _ _ _
  refine wpAny_bind (wpAny_of_eq (a := (.ref x, [b])) (by rfl) ?_)
  refine wpAny_pure ?_
  exact wpAny_pure h
/-- x >= y, x > y: the other side's own method answers -/
theorem refl_own {op : CmpOp} {Q : Value → Shared → Prop} (hu : A.units < cLine) (X : K.In s.heap) (I : PySem.W.InstAt s.heap x ox C od) (J : PySem.W.InstAt s.heap y oy C oe)
    (dec : ∀ Q' : Option Value → Shared → Prop, Q' none s → wpAny (model prog w) A (tryCompare (.ref x) (cmpInfo op).2.1 (.ref y)) Q' E s)
    (hs : PySem.W.findIn K (.ref C) (cmpInfo op).2.2 = some (some (.ref f))) (hf : PySem.W.isFn K (.ref f) = true)
    (h : wpAny (model prog w) A (call (.ref f) [.ref y, .ref x]) (PySem.W.CmpBack Q) E s) : wpAny (model prog w) A (richCompare op (.ref x) (.ref y)) Q E s := by
  have one : wpAny (model prog w) A (tryCompare (.ref y) (cmpInfo op).2.2 (.ref x)) (fun r s' => ∃ v, r = some v ∧ Q v s') E s := by
    unfold tryCompare
    refine wpAny_bind (PySem.W.ifBound_K X J hs hf (wpAny_mono h (fun v s' hv => ?_) fun _ _ e => e))
    cases v <;> first | exact hv.elim | exact wpAny_pure ⟨_, rfl, hv⟩
  unfold richCompare
  simp only [oneThing_ref]
  refine wpAny_holding (wpAny_bind (wpAny_cRoomFor hu ?_))
  refine wpAny_bind (I.type.here (wpAny_bind (J.type.here ?_)))
  have hne : (Value.ref C != Value.ref C) = false := by simp
  simp only [hne, Bool.false_eq_true, if_false]
  refine wpAny_bind (wpAny_pure ?_)
  simp only [Bool.false_eq_true, if_false]
  refine wpAny_bind (dec _ ?_)
  dsimp only
  simp only [Bool.not_false, if_true]
  refine wpAny_bind (wpAny_mono one (fun r s' z => ?_) fun _ _ e => e)
  obtain ⟨v, rfl, hq⟩ := z
  exact wpAny_pure hq
end
section
variable {X : Cx} {CX : CXT} {k : Nat} {f C : Addr} {fd : FuncData} {ps : List Str} {sp : Sp} {E : XK}
/-- what the order asks of the class -/
structure OrC (K : PySem.W.Frag) (C fle flt : Addr) : Prop where
  le : PySem.W.findIn K (.ref C) "__le__" = some (some (.ref fle))
  lef : PySem.W.isFn K (.ref fle) = true
  lt : PySem.W.findIn K (.ref C) "__lt__" = some (some (.ref flt))
  ltf : PySem.W.isFn K (.ref flt) = true
  ge : PySem.W.findIn K (.ref C) "__ge__" = some (some (.builtin "object.__ge__"))
  gt : PySem.W.findIn K (.ref C) "__gt__" = some (some (.builtin "object.__gt__"))
  hm : PySem.W.mroIn K C (.type "object") = some true
def rCmpR (C : Addr) (sp : Sp) (E : XK) : R2 := fun x y H Q => ∃ p q dp dq fp fq, x = .ref p ∧ y = .ref q ∧ H p = some (.ins C dp fp) ∧ H q = some (.ins C dq fq) ∧ sp [.ref q, .ref p] H Q E
theorem op_leO {g : Addr} (c : OrC X.K C f g) (F : FnOk X.prog X.w X.K X.mg X.base CX k f fd ps sp) (hr : Room k X.A) (hb : Binds X.K fd ps []) (hx : Passes CX X E) : OpR X (compareOp .LtE) (rEqO C sp E) := by
  intro pins s σ H x y v u Q I rx ry h
  obtain ⟨p, q, dp, dq, fp, fq, rfl, rfl, hp, hq, k⟩ := h
  cases rx
  cases ry
  obtain ⟨ox, od, J, _⟩ := ins_inst I hp
  obtain ⟨oy, oe, J2, _⟩ := ins_inst I hq
  obtain ⟨m, Fr⟩ := I.fr
  show wpAny _ _ (richCompare .LtE (.ref p) (.ref q)) _ _ _
  refine PySem.W.cmp_K (op := .LtE) (tb := .ref C) hr.units0 Fr I.ok.mod.kin J J2.type first_self c.le c.lef ?_
  exact wpAny_mono (run_fn (us := [.ref p, .ref q]) (vs := [.ref p, .ref q]) (dvs := []) F hr hb .nil hx I (.cons rfl (.cons rfl .nil)) k) (fun v s' z => back_of z) fun _ _ z => z
theorem op_ltO {g : Addr} (c : OrC X.K C g f) (F : FnOk X.prog X.w X.K X.mg X.base CX k f fd ps sp) (hr : Room k X.A) (hb : Binds X.K fd ps []) (hx : Passes CX X E) : OpR X (compareOp .Lt) (rEqO C sp E) := by
  intro pins s σ H x y v u Q I rx ry h
  obtain ⟨p, q, dp, dq, fp, fq, rfl, rfl, hp, hq, k⟩ := h
  cases rx
  cases ry
  obtain ⟨ox, od, J, _⟩ := ins_inst I hp
  obtain ⟨oy, oe, J2, _⟩ := ins_inst I hq
  obtain ⟨m, Fr⟩ := I.fr
  show wpAny _ _ (richCompare .Lt (.ref p) (.ref q)) _ _ _
  refine PySem.W.cmp_K (op := .Lt) (tb := .ref C) hr.units0 Fr I.ok.mod.kin J J2.type first_self c.lt c.ltf ?_
  exact wpAny_mono (run_fn (us := [.ref p, .ref q]) (vs := [.ref p, .ref q]) (dvs := []) F hr hb .nil hx I (.cons rfl (.cons rfl .nil)) k) (fun v s' z => back_of z) fun _ _ z => z
theorem op_geO {g : Addr} (c : OrC X.K C f g) (F : FnOk X.prog X.w X.K X.mg X.base CX k f fd ps sp) (hr : Room k X.A) (hb : Binds X.K fd ps []) (hx : Passes CX X E) : OpR X (compareOp .GtE) (rCmpR C sp E) := by
  intro pins s σ H x y v u Q I rx ry h
  obtain ⟨p, q, dp, dq, fp, fq, rfl, rfl, hp, hq, k⟩ := h
  cases rx
  cases ry
  obtain ⟨ox, od, J, _⟩ := ins_inst I hp
  obtain ⟨oy, oe, J2, _⟩ := ins_inst I hq
  show wpAny _ _ (richCompare .GtE (.ref p) (.ref q)) _ _ _
  refine refl_own (op := .GtE) hr.units0 I.kIn J J2 (fun Q' q => try_ge I.kIn J c.hm c.ge q) c.le c.lef ?_
  exact wpAny_mono (run_fn (us := [.ref q, .ref p]) (vs := [.ref q, .ref p]) (dvs := []) F hr hb .nil hx I (.cons rfl (.cons rfl .nil)) k) (fun v s' z => back_of z) fun _ _ z => z
theorem op_gtO {g : Addr} (c : OrC X.K C g f) (F : FnOk X.prog X.w X.K X.mg X.base CX k f fd ps sp) (hr : Room k X.A) (hb : Binds X.K fd ps []) (hx : Passes CX X E) : OpR X (compareOp .Gt) (rCmpR C sp E) := by
  intro pins s σ H x y v u Q I rx ry h
  obtain ⟨p, q, dp, dq, fp, fq, rfl, rfl, hp, hq, k⟩ := h
  cases rx
  cases ry
  obtain ⟨ox, od, J, _⟩ := ins_inst I hp
  obtain ⟨oy, oe, J2, _⟩ := ins_inst I hq
  show wpAny _ _ (richCompare .Gt (.ref p) (.ref q)) _ _ _
  refine refl_own (op := .Gt) hr.units0 I.kIn J J2 (fun Q' q => try_gt I.kIn J c.hm c.gt q) c.lt c.ltf ?_
  exact wpAny_mono (run_fn (us := [.ref q, .ref p]) (vs := [.ref q, .ref p]) (dvs := []) F hr hb .nil hx I (.cons rfl (.cons rfl .nil)) k) (fun v s' z => back_of z) fun _ _ z => z
/-- == and != with a value of a built-in type -/
def rEqY (K : PySem.W.Frag) (C : Addr) (sp : Sp) (E : XK) : R2 := fun x y H Q => ∃ p dp fp ty, x = .ref p ∧ H p = some (.ins C dp fp) ∧ TyX K H y (.type ty) ∧ PySem.W.subIn K (.type ty) (.ref C) = some false ∧ sp [.ref p, y] H Q E
def rNeY (K : PySem.W.Frag) (C : Addr) (sp : Sp) (E : XK) : R2 := fun x y H Q => ∃ p dp fp ty, x = .ref p ∧ H p = some (.ins C dp fp) ∧ TyX K H y (.type ty) ∧ PySem.W.subIn K (.type ty) (.ref C) = some false ∧ sp [.ref p, y] H (fun v H' => ∃ b, v = .bl b ∧ Q (.bl (!b)) H') E
theorem not_first {K : PySem.W.Frag} {ty : String} (h : PySem.W.subIn K (.type ty) (.ref C) = some false) : PySem.W.notFirst K C (.type ty) = true := by
  unfold PySem.W.notFirst
  rw [h]
  simp
theorem op_eqY (c : EqC X.K C f) (F : FnOk X.prog X.w X.K X.mg X.base CX k f fd ps sp) (hr : Room k X.A) (hb : Binds X.K fd ps []) (hx : Passes CX X E) : OpR X (compareOp .Eq) (rEqY X.K C sp E) := by
  intro pins s σ H x y v u Q I rx ry h
  obtain ⟨p, dp, fp, ty, rfl, hp, hy, hs, k⟩ := h
  cases rx
  obtain ⟨ox, od, J, _⟩ := ins_inst I hp
  obtain ⟨P, Z, hP, _⟩ := kit_of I ry hy
  obtain ⟨m, Fr⟩ := I.fr
  show wpAny _ _ (richCompare .Eq (.ref p) u) _ _ _
  refine PySem.W.cmp_K (op := .Eq) (tb := .type ty) hr.units0 Fr I.ok.mod.kin J (Z.ty _ _ I.kIn hP) (not_first hs) c.at_ c.fn ?_
  exact wpAny_mono (run_fn (us := [.ref p, u]) (vs := [.ref p, y]) (dvs := []) F hr hb .nil hx I (.cons rfl (.cons ry .nil)) k) (fun v s' z => back_of z) fun _ _ z => z
theorem op_neY (c : EqC X.K C f) (F : FnOk X.prog X.w X.K X.mg X.base CX k f fd ps sp) (hr : Room (k + 1) X.A) (hb : Binds X.K fd ps []) (hx : Passes CX X E) : OpR X (compareOp .NotEq) (rNeY X.K C sp E) := by
  intro pins s σ H x y v u Q I rx ry h
  obtain ⟨p, dp, fp, ty, rfl, hp, hy, hs, k⟩ := h
  cases rx
  obtain ⟨ox, od, J, _⟩ := ins_inst I hp
  obtain ⟨P, Z, hP, _⟩ := kit_of I ry hy
  refine ne_own (hu_of hr) I.kIn J (Z.ty _ _ I.kIn hP) (not_first hs) c.hm c.ne c.at_ c.fn ?_
  refine wpAny_mono (run_fn1 (us := [.ref p, u]) (vs := [.ref p, y]) F hr hb hx I (.cons rfl (.cons ry .nil)) k) (fun v s' z => ?_) fun _ _ z => z
  obtain ⟨v', H', I', rv, b, rfl, qq⟩ := z
  cases rv
  exact ⟨b, rfl, .bl (!b), H', I', rfl, qq⟩
end
end Cs

set_option Elab.async false
set_option linter.all false
set_option maxRecDepth 100000
set_option maxHeartbeats 4000000
/-! repr(o) by an own __repr__. -/
namespace Cs
open PySem PySem.Spec PyProof.Rows L2
/-- isinstance by the class's own facts -/
theorem kit_by {K : PySem.W.Frag} {C : Addr} {t : Value} {b : Bool} (h1 : PySem.W.isClsIn K C = true) (h2 : PySem.W.typeIn K (.ref C) = some (.type "type")) (h : PySem.W.subIn K t (.ref C) = some b) (hn : (t == Value.ref C) = false) : PySem.W.kitOne K t (.ref C) = some b := by
  have h1' : (PySem.W.clsIn K C).isSome = true := h1
  unfold PySem.W.kitOne PySem.W.kitCls
  simp [hn, h1', h2, h]
theorem kit_ty0 {K : PySem.W.Frag} {C : Addr} {ty : String} {b : Bool} (h1 : PySem.W.isClsIn K C = true) (h2 : PySem.W.typeIn K (.ref C) = some (.type "type")) (h : PySem.W.subIn K (.type ty) (.ref C) = some b) : PySem.W.kitOne K (.type ty) (.ref C) = some b :=
  kit_by h1 h2 h (beq_eq_false_iff_ne.mpr fun q => by cases q)
/-- an f-string's reading by a name -/
def tJn (ts : List TE) : TE := fun σ H Q => tJs ts Str.empty σ H fun out H1 => Q (.str out) H1
theorem pe_jn {X : Cx} {v1 v2 : Expr} {rest : List Expr} {ts : List TE} {pos : Pos} (h : PJ X (v1 :: v2 :: rest) ts) : PE X (.JoinedStr (v1 :: v2 :: rest) pos) (tJn ts) := pe_joined h
section
variable {X : Cx} {CX : CXT} {k : Nat} {f C : Addr} {fd : FuncData} {ps : List Str} {sp : Sp} {E : XK}
def rReprO (C : Addr) (sp : Sp) (E : XK) : List V → Hp → VK → Prop := fun xs H Q => ∃ a dx fs, xs = [.ref a] ∧ H a = some (.ins C dx fs) ∧ sp [.ref a] H (fun v H2 => ∃ z : Str, v = .str z ∧ Q (.str z) H2) E
theorem call_reprO (c : Spc X.K C "__repr__" f) (F : FnOk X.prog X.w X.K X.mg X.base CX k f fd ps sp) (hr : Room (k + 1) X.A) (hb : Binds X.K fd ps []) (hx : Passes CX X E) : CallR X (.builtin "repr") (rReprO C sp E) := by
  intro pins s σ H xs us Q I r h
  obtain ⟨a, dx, fs, rfl, ha, q⟩ := h
  rw [Vals.ref1 r]
  obtain ⟨ox, od, J, _⟩ := ins_inst I ha
  obtain ⟨m, Fr⟩ := I.fr
  refine PySem.W.repr_K (hu_of hr) Fr I.ok.mod.kin J c.at_ c.fn (wpAny_mono (run_fn1 (us := [.ref a]) (vs := [.ref a]) F hr hb hx I (.cons rfl .nil) q) (fun v s' z => ?_) fun _ _ z => z)
  obtain ⟨v0, H2, I2, rv, n, e, q2⟩ := z
  subst e
  obtain ⟨tk, rfl⟩ := rv
  exact ⟨.str n, H2, I2, ⟨tk, rfl⟩, q2⟩
end
end Cs

set_option Elab.async false
set_option linter.all false
set_option maxRecDepth 100000
set_option maxHeartbeats 4000000
set_option pp.maxSteps 600
/-! Counts: their order, their repr, == with other values. -/
namespace Cs
open PySem L2
noncomputable def leB (F G : Str → Int) : Bool := @decide (∀ z, F z ≤ G z) (Classical.propDecidable _)
theorem leB_iff {F G : Str → Int} : leB F G = true ↔ ∀ z, F z ≤ G z := by unfold leB; exact @decide_eq_true_iff _ (Classical.propDecidable _)
theorem leB_f {F G : Str → Int} {z : Str} (h : ¬ F z ≤ G z) : leB F G = false := Bool.eq_false_iff.mpr fun q => h (leB_iff.mp q z)
theorem eq_le {F G : Str → Int} {b : Bool} (h : b = true ↔ ∀ z, F z = G z) : b = (leB F G && leB G F) := by
  rw [Bool.eq_iff_iff, h, Bool.and_eq_true, leB_iff, leB_iff]
  exact ⟨fun q => ⟨fun z => Int.le_of_eq (q z), fun z => Int.le_of_eq (q z).symm⟩, fun q z => Int.le_antisymm (q.1 z) (q.2 z)⟩
structure RelDef (P : Program) (w : World) (K : PySem.W.Frag) (mg : Str → Option Value) (base : Heap) (CX : CXT) (k : Nat) (C fle flt : Addr) (ps : List Str) (sp : Sp) (f : Addr) (fd : FuncData) : Prop where
  c : OrC K C fle flt
  ok : FnOk P w K mg base CX k f fd ps sp
  b : Binds K fd ps []
def spLe (C : Addr) : Sp := fun vs H Q _ => ∃ (p d q e : Addr) (t u : Tab), vs = [.ref p, .ref q] ∧ Cnt C H p d t ∧ Cnt C H q e u ∧ t.length ≤ 400 ∧ u.length ≤ 400 ∧ ∀ H', Same H H' → Q (.bl (leB (val t) (val u))) H'
def spLt (C : Addr) : Sp := fun vs H Q _ => ∃ (p d q e : Addr) (t u : Tab), vs = [.ref p, .ref q] ∧ Cnt C H p d t ∧ Cnt C H q e u ∧ t.length ≤ 400 ∧ u.length ≤ 400 ∧ ∀ H', Same H H' → Q (.bl (leB (val t) (val u) && !(leB (val t) (val u) && leB (val u) (val t)))) H'
/-- a value of a built-in type, no counts -/
def NotC (K : PySem.W.Frag) (C : Addr) (H : Hp) (y : V) : Prop := ∃ ty : String, TyX K H y (.type ty) ∧ PySem.W.subIn K (.type ty) (.ref C) = some false ∧ PySem.W.kitOne K (.type ty) (.ref C) = some false
def spEqY (K : PySem.W.Frag) (C : Addr) : Sp := fun vs H Q _ => ∃ (p : Addr) (y : V), vs = [.ref p, y] ∧ NotC K C H y ∧ Q (.bl false) H
/-- the text of a number -/
def nt (n : Int) : Str := Str.ofString (toString n)
theorem nt_len {n : Int} (h : BN 200 n) : (nt n).length ≤ 1921 := PyProof.Rows.int_text_len_1921 (Nat.lt_of_le_of_lt h.log (by decide))
/-- word=number -/
def part (q : Str × Int) : Str := q.1 ++ "=" ++ nt q.2
def reprC (l : Tab) : Str := "Counts(" ++ Txt.join ", " (l.map part) ++ ")"
theorem part_len {q : Str × Int} (h1 : Word q.1) (h2 : BN 200 q.2) : (part q).length ≤ 1930 := by
  have := nt_len h2
  have := h1.2.1
  unfold part
  rw [strLen_append, strLen_append]
  have e2 : (("=" : String) : Str).length = 1 := rfl
  rw [e2]
  omega
theorem join_len (sep : Str) : ∀ ts : List Str, (Str.join sep ts).length ≤ (ts.map (·.length)).sum + ts.length * sep.length
  | [] => Nat.zero_le _
  | [x] => by show x.length ≤ _; simp
  | x :: y :: r => by
    have ih := join_len sep (y :: r)
    show (x ++ sep ++ Str.join sep (y :: r)).length ≤ _
    rw [strLen_append, strLen_append]
    simp only [List.map_cons, List.sum_cons, List.length_cons, Nat.add_mul, Nat.one_mul] at ih ⊢
    omega
theorem sum_le {B : Nat} : ∀ {ts : List Str}, (∀ t ∈ ts, t.length ≤ B) → (ts.map (·.length)).sum ≤ ts.length * B
  | [], _ => Nat.zero_le _
  | t :: ts, h => by
    have := sum_le (fun q m => h q (List.mem_cons_of_mem _ m))
    have := h t List.mem_cons_self
    simp only [List.map_cons, List.sum_cons, List.length_cons, Nat.add_mul, Nat.one_mul]
    omega
theorem empty_app (z : Str) : Str.empty ++ z = z := str_ext (by rw [PySem.Str.cps_append]; simp [Str.empty])
def spRepr (C : Addr) : Sp := fun vs H Q _ => ∃ (p d : Addr) (t : Tab), vs = [.ref p] ∧ Cnt C H p d t ∧ t.length ≤ 400 ∧ (∀ z, BN 200 (val t z)) ∧ ∀ (l : Tab) (H' : Hp), Told (val t) l → Same H H' → Q (.str (reprC l)) H'
section
variable {P : Program} {w : World} {K : PySem.W.Frag} {mg : Str → Option Value} {base : Heap}
theorem ok_le {C f fGe fJw : Addr} {fd fdGe fdJw : FuncData} {fI : Addr} (F : Fun K "__le__" "Counts.__le__" s_Counts_le f fd) (g : Bi mg) (T : CT P w K mg base C fI) (ci : CI K C) (SGe : GDef P w K mg base CX0 2 C "__getitem__" ["self", "word"] (spGet C) fGe fdGe)
    (FJw : Def P w K mg base CX0 3 "joint_words" ["one", "other"] (spJoint C) fJw fdJw) : FnOk P w K mg base CX0 4 f fd ["self", "other"] (spLe C) := by
  obtain ⟨GJw, mJw, _, bJw⟩ := id FJw
  refine F.ok sc_Counts_le (fun vs H Q E h => ?_) (fun cdv A outer s H vs Q E hr h => ?_)
  · obtain ⟨_, _, _, _, _, _, rfl, _⟩ := h
    rfl
  · obtain ⟨p, d, q, e, t, u, rfl, hc, hc2, hl, hl2, k⟩ := h
    have hrJw : Room 3 _ := hr.mono (by decide)
    have hrGe : Room 3 _ := hr.mono (by decide)
    refine ⟨_, (pss_cons (ps_if (pt_not (pt_val (pe_callB call_isi (by rfl) g.isinstance (by decide +kernel) (pa_cons (pv 1) (pa_cons (pe_glob (v := .ref C) rfl T.mgC rfl) pa_nil))))) (pss_one (ps_never)) pss_nil)
      (pss_one (ps_ret (pe_callB (cr_all rfl) (by rfl) g.all (by decide +kernel) (pa_cons (pe_lc (own := [("word", 2)]) (g := gName 2)  (by rfl) sc_Counts_le.nd (pi_list (pe_call GJw hrJw rfl mJw FJw.kp bJw .nil pass0 (pa_cons (pv 0) (pa_cons (pv 1) pa_nil)))) (blkOk_by (own := [("word", 2)]) (N := ["self", "other", "word"]) (sc := defScope s_Counts_le) (by decide +kernel)) (fun _ _ _ _ _ => (pg_name (i := 2) sc_Counts_le.nd rfl (Or.inl rfl))) (fun _ _ _ _ _ => pts_nil) (fun _ _ _ _ _ => (pe_cmpR op_le (pe_ixO SGe.c SGe.fi SGe.ok hrGe SGe.b pass0 (pv 0) (pv 2)) (pe_ixO SGe.c SGe.fi SGe.ok hrGe SGe.b pass0 (pv 1) (pv 2)) (nomark _)))) pa_nil))))), ?_⟩
    obtain ⟨⟨dx, hp⟩, _⟩ := id hc
    obtain ⟨⟨dx2, hq⟩, _⟩ := id hc2
    refine ⟨_, rfl, _, _, _, _, true, rfl, .own C, ci.ty hq, kit_self, _, rfl, iteF ?_⟩
    refine ⟨_, rfl, _, rfl, p, d, q, e, t, u, rfl, hc, hc2, hl, hl2, fun l H1 ws hl' s1 h1 ha hm hle => ⟨l, rfl, ⟨_, SqL.of h1⟩, fun D hD => ?_⟩⟩
    have hww : ∀ z ∈ ws, Word z := fun z hz => ((hm z).mp hz).elim (hc.wd z) (hc2.wd z)
    refine lc_it (walk_list (xs := ws.map V.str)) (fun i H' => Same H1 H' ∧ H' D = some (.lst ((ws.take i).map fun z => V.bl (decide (val t z ≤ val u z))))) ⟨Same.new hD, upd_same⟩ (fun i H' _ h => SqL.of (h.1 _ _ h1)) ?_ ?_
    · rintro i x H' H2' hi ⟨s', hD'⟩ ⟨rfl, hx⟩
      rw [List.length_map] at hi
      have ex : x = V.str ws[i] := by
        rw [List.getElem?_map, List.getElem?_eq_getElem hi] at hx
        exact (Option.some.inj hx).symm
      subst ex
      have hz : ws[i] ∈ ws := List.getElem_mem hi
      have hcA := (hc.same s1).same s'
      obtain ⟨⟨dxA, hpA⟩, _⟩ := id hcA
      refine ⟨rfl, yes_it ?_⟩
      refine ⟨_, rfl, _, rfl, p, dxA, _, rfl, hpA, p, d, t, ws[i], rfl, hww _ hz, hcA, fun H2 s2 => ?_⟩
      have hcB := ((hc2.same s1).same s').same s2
      obtain ⟨⟨dxB, hqB⟩, _⟩ := id hcB
      refine ⟨_, rfl, _, rfl, q, dxB, _, rfl, hqB, q, e, u, ws[i], rfl, hww _ hz, hcB, fun H3 s3 => ⟨_, _, rfl, rfl, ?_⟩⟩
      have s23 := s2.trans s3
      refine ⟨_, s23 _ _ hD', ?_, fun b o e => ?_, ?_⟩
      · rw [List.length_map, List.length_take]
        exact Nat.lt_of_le_of_lt (show min i ws.length ≤ 1000 by omega) (by decide)
      · rw [upd_ne (ne_of_none e hD)]
        exact s23 _ _ (s' _ _ e)
      · rw [upd_same, List.take_succ, List.getElem?_eq_getElem hi, List.map_append]
        rfl
    rintro H2 ⟨s2, hD2⟩
    rw [List.length_map, List.take_length] at hD2
    refine ⟨D, ws.map fun z => decide (val t z ≤ val u z), rfl, SqL.of (by rw [hD2, List.map_map]; rfl), ?_⟩
    have eb : (ws.map fun z => decide (val t z ≤ val u z)).all id = leB (val t) (val u) := by
      rw [Bool.eq_iff_iff, leB_iff, List.all_map, List.all_eq_true]
      constructor
      · intro h z
        by_cases c : z ∈ ws
        · exact of_decide_eq_true (h z c)
        · have c1 : ¬ (z ∈ keys t ∨ z ∈ keys u) := mt (hm z).mpr c
          rw [val_out (fun m => c1 (.inl m)), val_out (fun m => c1 (.inr m))]
          exact Int.le_refl _
      · intro h z _
        exact decide_eq_true (h z)
    rw [eb]
    exact k H2 (s1.trans s2)
theorem ok_lt {C f fLe gLe : Addr} {fd fdLe : FuncData} {fI : Addr} (F : Fun K "__lt__" "Counts.__lt__" s_Counts_lt f fd) (g : Bi mg) (T : CT P w K mg base C fI) (ci : CI K C) (OLe : RelDef P w K mg base CX0 4 C fLe gLe ["self", "other"] (spLe C) fLe fdLe) :
    FnOk P w K mg base CX0 5 f fd ["self", "other"] (spLt C) := by
  refine F.ok sc_Counts_lt (fun vs H Q E h => ?_) (fun cdv A outer s H vs Q E hr h => ?_)
  · obtain ⟨_, _, _, _, _, _, rfl, _⟩ := h
    rfl
  · obtain ⟨p, d, q, e, t, u, rfl, hc, hc2, hl, hl2, k⟩ := h
    have hrLe : Room 4 _ := hr.mono (by decide)
    have hu0 := Nat.lt_of_succ_lt (hu_of hr)
    refine ⟨_, (pss_cons (ps_if (pt_not (pt_val (pe_callB call_isi (by rfl) g.isinstance (by decide +kernel) (pa_cons (pv 1) (pa_cons (pe_glob (v := .ref C) rfl T.mgC rfl) pa_nil))))) (pss_one (ps_never)) pss_nil)
      (pss_one (ps_ret (pe_and (pe_cmpR (op_leO OLe.c OLe.ok hrLe OLe.b pass0) (pv 0) (pv 1) (nomark _)) (pe_one (pe_cmpR (op_neT hu0) (pe_fld (pv 0) rfl) (pe_fld (pv 1) rfl) (nomark _))))))), ?_⟩
    obtain ⟨⟨dx, hp⟩, _⟩ := id hc
    obtain ⟨⟨dx2, hq⟩, _⟩ := id hc2
    refine ⟨_, rfl, _, _, _, _, true, rfl, .own C, ci.ty hq, kit_self, _, rfl, iteF ?_⟩
    refine ⟨_, rfl, _, rfl, p, q, _, _, _, _, rfl, rfl, hp, hq, p, d, q, e, t, u, rfl, hc, hc2, hl, hl2, fun H1 s1 => ⟨_, rfl, ?_⟩⟩
    cases el : leB (val t) (val u) with
    | false =>
      refine iteF ?_
      have := k H1 s1
      rw [el] at this
      exact this
    | true =>
      refine iteT ?_
      have hcA := hc.same s1
      have hcB := hc2.same s1
      obtain ⟨⟨dxA, hpA⟩, hdA, hhA, _⟩ := id hcA
      obtain ⟨⟨dxB, hqB⟩, hdB, hhB, _⟩ := id hcB
      refine ⟨_, rfl, p, C, dxA, _, _, rfl, hpA, T.cl, T.nH, flds_held d, _, rfl, q, C, dxB, _, _, rfl, hqB, T.cl, T.nH, flds_held e, d, e, t, u, rfl, rfl, hdA, hdB, ?_⟩
      rw [eq_le (same_tab hhA hhB)]
      have := k H1 s1
      rw [el] at this ⊢
      exact this
theorem ok_eqY {C f : Addr} {fd : FuncData} {fI : Addr} (F : Fun K "__eq__" "Counts.__eq__" s_Counts_eq f fd) (g : Bi mg) (T : CT P w K mg base C fI) (ci : CI K C) : FnOk P w K mg base CX0 1 f fd ["self", "other"] (spEqY K C) := by
  refine F.ok sc_Counts_eq (fun vs H Q E h => ?_) (fun cdv A outer s H vs Q E hr h => ?_)
  · obtain ⟨_, _, rfl, _⟩ := h
    rfl
  · obtain ⟨p, y, rfl, ⟨ty, h1, h2, h3⟩, k⟩ := h
    have hu := hu_of hr
    have hu0 := Nat.lt_of_succ_lt hu
    refine ⟨_, (pss_one (ps_ret (pe_and (pe_callB call_isi (by rfl) g.isinstance (by decide +kernel) (pa_cons (pv 1) (pa_cons (pe_glob (v := .ref C) rfl T.mgC rfl) pa_nil))) (pe_one (pe_cmpR (op_eqT hu0) (pe_fld (pv 0) rfl) (pe_fld (pv 1) rfl) (nomark _)))))), ?_⟩
    exact ⟨_, rfl, _, _, _, _, false, rfl, .own C, h1, h3, _, rfl, iteF k⟩
theorem ok_repr {C f fWo : Addr} {fd fdWo : FuncData} {fI : Addr} (F : Fun K "__repr__" "Counts.__repr__" s_Counts_repr f fd) (g : Bi mg) (T : CT P w K mg base C fI) (MWo : MDef P w K mg base CX0 2 C "words" ["self"] (spWords C) fWo fdWo) : FnOk P w K mg base CX0 3 f fd ["self"] (spRepr C) := by
  refine F.ok sc_Counts_repr (fun vs H Q E h => ?_) (fun cdv A outer s H vs Q E hr h => ?_)
  · obtain ⟨_, _, _, rfl, _⟩ := h
    rfl
  · obtain ⟨p, d, t, rfl, hc, hl, hb, k⟩ := h
    have hrWo : Room 2 _ := hr.mono (by decide)
    have hu := hu_of hr
    obtain ⟨⟨dx, hp⟩, hd, hh, hw⟩ := id hc
    refine ⟨_, (pss_cons (ps_setLc (i := 1) (own := [("word", 3)]) (g := gName 3) (te := (tJn [tFmt (tVar 3), tC (.str "="), tFmt (tDGet (tFld K (tVar 0) "held") (tVar 3))]))  (by rfl) sc_Counts_repr.nd rfl rfl (sw_true rfl rfl rfl (by decide +kernel)) (pi_list (pe_meth0 (pv 0) T.cl MWo.me MWo.ok hrWo MWo.b .nil pass0)) (blkOk_by (own := [("word", 3)]) (N := ["self", "parts", "inside", "word"]) (sc := defScope s_Counts_repr) (by decide +kernel)) (fun _ _ _ _ _ => (pg_name (i := 3) sc_Counts_repr.nd rfl (Or.inl rfl))) (fun _ _ _ _ _ => pts_nil) (fun _ _ _ _ _ => (pe_jn (PJ.cons (pe_fmt (pv 3)) (PJ.cons pe_str (PJ.cons (pe_fmt (pe_dget hu (pe_fld (pv 0) rfl) (pv 3) (fun _ _ => rfl))) PJ.nil))))))
      (pss_cons (ps_set (i := 2) sc_Counts_repr.nd rfl (Or.inl rfl) (pe_join pe_str (pv 1)))
      (pss_one (ps_ret (pe_jn (PJ.cons pe_str (PJ.cons (pe_fmt (pv 2)) (PJ.cons pe_str PJ.nil)))))))), ?_⟩
    refine ⟨_, rfl, p, dx, _, rfl, hp, rfl, p, d, t, rfl, hc, by omega, fun q H1 ws hq s1 h1 ha hm hle => ⟨q, rfl, ⟨_, SqL.of h1⟩, fun D hD => ?_⟩⟩
    refine lc_it (walk_list (xs := ws.map V.str)) (fun i H' => Same H1 H' ∧ H' D = some (.lst ((ws.take i).map fun z => V.str (part (z, val t z))))) ⟨Same.new hD, upd_same⟩ (fun i H' _ h => SqL.of (h.1 _ _ h1)) ?_ ?_
    · rintro i x H' H2' hi ⟨s', hD'⟩ ⟨rfl, hx⟩
      rw [List.length_map] at hi
      have ex : x = V.str ws[i] := by
        rw [List.getElem?_map, List.getElem?_eq_getElem hi] at hx
        exact (Option.some.inj hx).symm
      subst ex
      have hz := (hm ws[i]).mp (List.getElem_mem hi)
      have hwz := hw _ hz
      obtain ⟨n, en, _⟩ := look_some hz
      have ev : val t ws[i] = n := by unfold val; rw [en]; rfl
      have hd' := s' _ _ (s1 _ _ hd)
      have hbn := hb ws[i]
      have l1 := hwz.2.1
      have l2 := nt_len hbn
      rw [ev] at hbn l2
      have e2 : (("=" : String) : Str).length = 1 := rfl
      have ez : Str.empty.length = 0 := rfl
      have big : 2000 ≤ sizeLine := by decide
      refine ⟨rfl, yes_it ?_⟩
      refine ⟨_, rfl, .inl ⟨ws[i], rfl, by omega, ws[i], rfl, by rw [strLen_append]; omega, _, rfl, by rw [strLen_append, strLen_append, e2]; omega, ?_⟩⟩
      refine ⟨_, rfl, p, C, dx, _, _, rfl, s' _ _ (s1 _ _ hp), T.cl, T.nH, flds_held d, _, rfl, d, .int n, rfl, ?_, .inr ⟨n, rfl, Nat.lt_of_le_of_lt hbn.log (by decide), nt n, rfl, by rw [strLen_append, strLen_append, strLen_append, e2]; omega, ?_⟩⟩
      · have := DGet.k (k := Sum.inr ws[i]) hd'
        rw [tv_val, en] at this
        exact this
      refine ⟨_, hD', ?_, fun b o e => ?_, ?_⟩
      · rw [List.length_map, List.length_take]
        exact Nat.lt_of_le_of_lt (show min i ws.length ≤ 1000 by omega) (by decide)
      · rw [upd_ne (ne_of_none e hD)]
        exact s' _ _ e
      · rw [upd_same, List.take_succ, List.getElem?_eq_getElem hi, List.map_append, empty_app]
        show some (HO.lst (_ ++ [V.str (part (ws[i], n))])) = some (HO.lst (_ ++ [V.str (part (ws[i], val t ws[i]))]))
        rw [ev]
    rintro H2 ⟨s2, hD2⟩
    rw [List.length_map, List.take_length] at hD2
    have hT := hh.told ha hm
    have hpl : ∀ y ∈ (ws.map fun z => part (z, val t z)), y.length ≤ 1930 := fun y my => by
      obtain ⟨z, hz, e⟩ := List.mem_map.mp my
      rw [← e]
      exact part_len (hw z ((hm z).mp hz)) (hb z)
    have hpl2 := sum_le hpl
    have e2 : ((", " : String) : Str).length = 2 := rfl
    have e3 : (("Counts(" : String) : Str).length = 7 := rfl
    have e4 : ((")" : String) : Str).length = 1 := rfl
    have hwl : (ws.map fun z => part (z, val t z)).length ≤ 400 := by rw [List.length_map]; omega
    have big : 1000000 ≤ sizeLine := by decide
    have hj := join_len ", " (ws.map fun z => part (z, val t z))
    rw [e2] at hj
    have hjl : (Txt.join ", " (ws.map fun z => part (z, val t z))).length ≤ 1000000 - 100 := by rw [TL.join_eq]; omega
    refine ⟨⟨_, rfl⟩, _, rfl, _, D, ws.map fun z => part (z, val t z), rfl, rfl, .inl (SqL.of (by rw [hD2, List.map_map]; rfl)), by rw [e2]; omega, ?_⟩
    refine ⟨_, rfl, by rw [strLen_append, e3]; show 0 + 7 ≤ _; omega, _, rfl, .inl ⟨_, rfl, by omega, _, rfl, by rw [strLen_append, strLen_append, e3]; show 0 + 7 + _ ≤ _; omega, _, rfl, by rw [strLen_append, strLen_append, strLen_append, e3, e4]; show 0 + 7 + _ + 1 ≤ _; omega, ?_⟩⟩
    have := k _ H2 hT (s1.trans s2)
    unfold reprC at this
    rw [List.map_map] at this
    rw [empty_app]
    exact this
end
end Cs

set_option Elab.async false
set_option linter.all false
set_option maxRecDepth 100000
set_option maxHeartbeats 4000000
/-! Format specs "<8" (a text) and ">8," (a number), text * number. -/
namespace Cs
open PySem
/-- digits in groups of three, from the right -/
def comm : Nat → List Nat → List Nat
  | 0, ds => ds
  | n + 1, ds => if ds.length ≤ 3 then ds else comm n (ds.take (ds.length - 3)) ++ 44 :: ds.drop (ds.length - 3)
theorem comm_short {n : Nat} {ds : List Nat} (h : ds.length ≤ 3) : comm n ds = ds := by
  cases n with
  | zero => rfl
  | succ n => exact if_pos h
theorem comm_fuel : ∀ (n m : Nat) (ds : List Nat), ds.length ≤ n → ds.length ≤ m → comm n ds = comm m ds
  | 0, m, ds, h, _ => by rw [comm_short (by omega), comm_short (by omega)]
  | n + 1, 0, ds, _, h => by rw [comm_short (by omega), comm_short (by omega)]
  | n + 1, m + 1, ds, h, h2 => by
    unfold comm
    by_cases c : ds.length ≤ 3
    · rw [if_pos c, if_pos c]
    · rw [if_neg c, if_neg c, comm_fuel n m _ (by rw [List.length_take]; omega) (by rw [List.length_take]; omega)]
theorem comm_len : ∀ (n : Nat) (ds : List Nat), (comm n ds).length ≤ 2 * ds.length
  | 0, ds => by show ds.length ≤ _; omega
  | n + 1, ds => by
    unfold comm
    by_cases c : ds.length ≤ 3
    · rw [if_pos c]; omega
    · rw [if_neg c, List.length_append, List.length_cons, List.length_drop]
      have := comm_len n (ds.take (ds.length - 3))
      rw [List.length_take] at this
      omega
theorem comm_ge : ∀ (n : Nat) (ds : List Nat), ds.length ≤ (comm n ds).length
  | 0, ds => Nat.le_refl _
  | n + 1, ds => by
    unfold comm
    by_cases c : ds.length ≤ 3
    · rw [if_pos c]; omega
    · rw [if_neg c, List.length_append, List.length_cons, List.length_drop]
      have := comm_ge n (ds.take (ds.length - 3))
      rw [List.length_take] at this
      omega
theorem groups_comm : ∀ (turns : Nat) (l : List Nat) (room : Int) (out : List Nat), l ≠ [] → l.length ≤ turns → room ≤ 0 → PyProof.Rows.groupsFromRight' 3 44 turns l room out = comm turns l.reverse ++ out
  | 0, l, _, _, hl, h, _ => absurd (List.length_eq_zero_iff.mp (by omega)) hl
  | turns + 1, l, room, out, hl, h, hr => by
    have h1 : 1 ≤ l.length := by
      cases l with
      | nil => exact absurd rfl hl
      | cons _ _ => simp
    have en : min 3 (max (max (l.length : Int) room) 1).toNat = min 3 l.length := by omega
    unfold PyProof.Rows.groupsFromRight'
    dsimp only
    rw [en]
    have e0 : min 3 l.length - l.length = 0 := by omega
    rw [e0, List.replicate_zero, List.nil_append]
    unfold comm
    rw [List.length_reverse]
    by_cases c : l.length ≤ 3
    · rw [if_pos c]
      have ed : l.drop (min 3 l.length) = [] := List.drop_eq_nil_iff.mpr (by omega)
      have et : l.take (min 3 l.length) = l := List.take_of_length_le (by omega)
      rw [if_pos (by rw [ed]; simp; omega), et]
    · rw [if_neg c]
      have em : min 3 l.length = 3 := by omega
      rw [em]
      have ed : (l.drop 3).isEmpty = false := by
        cases e : l.drop 3 with
        | nil => rw [List.drop_eq_nil_iff] at e; omega
        | cons _ _ => rfl
      rw [if_neg (by rw [ed]; simp), groups_comm turns _ _ _ (by intro e; rw [e] at ed; cases ed) (by rw [List.length_drop]; omega) (by omega)]
      have e1 : (l.drop 3).reverse = l.reverse.take (l.length - 3) := by rw [List.reverse_drop]
      have e2 : (l.take 3).reverse = l.reverse.drop (l.length - 3) := by rw [List.reverse_take]
      rw [e1, e2, List.append_assoc, List.cons_append]
/-- the digits of a number without its sign -/
def digs (a : Int) : List Nat := (Nat.toDigits 10 a.natAbs).map Char.toNat
theorem digs_ne (a : Int) : digs a ≠ [] := by
  have h1 := PyProof.Rows.tDigits_len_ge 10 a.natAbs
  intro e
  have h2 := congrArg List.length e
  unfold digs at h2
  rw [List.length_map, List.length_nil] at h2
  omega
theorem digs_len {a : Int} (h : a.natAbs.log2 < 1920) : (digs a).length ≤ 1921 := by
  have h1 := PyProof.Rows.int_text_len_1921 (i := (a.natAbs : Int)) (by simpa using h)
  have h2 := PyProof.Rows.text_ofNat a.natAbs
  have h3 : (Str.ofString (toString (Int.ofNat a.natAbs))).length = (digs a).length := by
    rw [h2]
    show (List.toArray _).size = _
    simp [digs]
  rw [← h3]
  exact h1
/-- a number with commas -/
def commaS (a : Int) : Str := ⟨((if a < 0 then [45] else []) ++ comm (digs a).length (digs a)).toArray⟩
theorem commaS_len {a : Int} (h : a.natAbs.log2 < 1920) : (commaS a).length ≤ 3843 := by
  have h1 := comm_len (digs a).length (digs a)
  have h2 := digs_len h
  show (List.toArray _).size ≤ _
  rw [List.size_toArray, List.length_append]
  have : (if a < 0 then [45] else ([] : List Nat)).length ≤ 1 := by split <;> simp
  omega
def f8c : Builtin.Float.FormatSpec := { align := 62, width := some 8, grouping := some ',' }
theorem spec8_text (a : Int) : PyProof.Rows.intSpecText f8c a = Txt.rjust (commaS a) 8 := by
  have hd : ((Nat.toDigits 10 a.natAbs).map fun c => (if ((100 : Nat) == 88) = true then c.toUpper else c).toNat) = digs a := rfl
  have hn := digs_ne a
  have hemp : (digs a).isEmpty = false := by
    cases e : digs a with
    | nil => exact absurd e hn
    | cons _ _ => rfl
  unfold PyProof.Rows.intSpecText
  rw [hd]
  unfold PyProof.Rows.intField'
  simp only [f8c, hemp, Bool.false_eq_true, if_false, show ((32 : Nat) == 48) = false from rfl, show ((62 : Nat) == 61) = false from rfl, show ((62 : Nat) == 60) = false from rfl, show ((62 : Nat) == 94) = false from rfl, Bool.false_and,
    show (',' : Char).toNat = 44 from rfl]
  rw [groups_comm _ _ _ _ (by simpa using hn) (by rw [List.length_reverse]; omega) (Int.le_refl 0), List.reverse_reverse, List.append_nil]
  rw [comm_fuel _ (digs a).length (digs a) (by omega) (Nat.le_refl _)]
  generalize hc : comm (digs a).length (digs a) = c
  have hL : (commaS a).length = (if a < 0 then [45] else ([] : List Nat)).length + c.length := by
    show (List.toArray _).size = _
    rw [List.size_toArray, List.length_append, hc]
  have hb : (if decide (a < 0) = true then [45] else ([] : List Nat)) = (if a < 0 then [45] else []) := by
    by_cases h : a < 0 <;> simp [h]
  unfold Txt.rjust
  refine Str.ext' ?_
  by_cases h8 : (8 : Int) ≤ ((commaS a).length : Int)
  · rw [if_pos h8]
    simp only [List.length_nil, Int.natCast_zero, hb]
    have ep : ((8 : Nat) - (((if a < 0 then [45] else ([] : List Nat)).length : Int) + 0 + 0) - (c.length : Int)).toNat = 0 := by omega
    unfold commaS
    rw [hc]
    simp only [List.replicate_zero, List.nil_append, List.append_nil]
    have ep2 : ((((8 : Nat) : Int) - ((if a < 0 then [45] else ([] : List Nat)).length : Int) - (c.length : Int))).toNat = 0 := by omega
    first
      | rw [ep2]; simp
      | (simp; omega)
  · rw [if_neg h8]
    simp only [List.length_nil, Int.natCast_zero, hb]
    unfold Builtin.Str.padded
    have ec : (commaS a).cps.toList = (if a < 0 then [45] else ([] : List Nat)) ++ c := by unfold commaS; rw [hc]
    have en : (↑(8 : Nat) - (↑(if a < 0 then [45] else ([] : List Nat)).length + 0 + 0) - ↑(c ++ []).length : Int).toNat = Int.toNat 8 - (commaS a).length := by
      rw [List.append_nil, hL]
      omega
    rw [en]
    apply Array.ext'
    simp only [Array.toList_append, Array.toList_replicate, ec, List.append_nil, List.replicate_zero, List.nil_append, List.append_assoc]
section
open Builtin Builtin.Float Builtin.Str PySem.W
theorem parse_s8 : parseFormatSpec (Str.ofString "<8").cps.toList "str" 60 = .ok { align := 60, width := some 8 } := by kernel_rfl
theorem parse_c8 : parseFormatSpec (Str.ofString ">8,").cps.toList "int" 62 = .ok f8c := by kernel_rfl
theorem ljust8 (x : Str) : Txt.ljust x 8 = if 8 ≤ x.length then x else padded x 0 (8 - x.length) 32 := by
  unfold Txt.ljust
  by_cases h : 8 ≤ x.length
  · rw [if_pos h, if_pos (by omega)]
  · rw [if_neg h, if_neg (by omega)]
    rfl
theorem strField_s8 (x : Str) (ty : String) : strField x { align := 60, width := some 8 } ty = .ok (if 8 ≤ x.length then none else some (padded x 0 (8 - x.length) 32)) := by
  unfold strField
  by_cases h : 8 ≤ x.length
  · rw [if_pos h]
    simp [h]
    rfl
  · rw [if_neg h]
    simp [h, PyProof.Rows.strSub_whole]
    rfl
theorem meets_s8 {x : Str} {t u : Tok} (hx : x.length ≤ 1000000) : Meets («str.__format__» ⟨[.str x t, .str (Str.ofString "<8") u], []⟩) (fun _ R s => ∀ t' k, R (.ok (.ret (.str (Txt.ljust x 8) t'))) { s with toks := k }) := by
  apply KPc.meets_of
  intro prog w A s Q E h
  unfold Builtin.«str.__format__»
  refine wpAny_bind (wpAny_of_eq (a := (_, _, _)) rfl ?_)
  refine wpAny_bind (wpAny_of_eq (a := some _) rfl ?_)
  kxf_if
  kxf_if
  refine wpAny_bind (KXf.cut_str ?_)
  rw [ljust8] at h
  have hc : (do
      let f ← parseFormatSpec (Str.ofString "<8").cps.toList "str" 60
      let f : FormatSpec := if (f.type.isNone && (Str.ofString "<8").cps.back? == some 0) = true then { f with type := some 0 } else f
      if tooLong (f.width.getD 0) = true then pure none
      else do
        let r ← strField x f "str"
        pure (some r) : Except String (Option (Option Str))) = .ok (some (if 8 ≤ x.length then none else some (padded x 0 (8 - x.length) 32))) := by
    rw [parse_s8]
    show (if tooLong 8 = true then pure none else do
        let r ← strField x { align := 60, width := some 8 } "str"
        pure (some r) : Except String (Option (Option Str))) = _
    rw [if_neg (by decide +kernel), strField_s8]
    rfl
  dsimp only
  rw [hc]
  by_cases h8 : 8 ≤ x.length
  · rw [if_pos h8] at h ⊢
    exact wpAny_bind (wpAny_rule (KXf.ret_same rfl h))
  · rw [if_neg h8] at h ⊢
    refine KXf.ret_text rfl ?_ h
    show Array.size _ ≤ _
    simp only [padded, Array.size_append, Array.size_replicate]
    have : x.cps.size = x.length := rfl
    have := sizeLine_eq
    omega
section
variable {prog : Program} {w : World} {A : Around} {E : Value → Shared → Prop} {s : Shared} {t : Tok}
theorem field_s8 {x : Str} {Q : Value → Shared → Prop} (hx : x.length ≤ 1000000) (h : ∀ t' k, Q (.str (Txt.ljust x 8) t') { s with toks := k }) : wpAny (model prog w) A (formatField (.str x t) (Str.ofString "<8")) Q E s :=
  KXf.field_str rfl rfl (by decide +kernel) (by decide +kernel) (fun u => meets_s8 hx) h
theorem field_c8 {a : Int} {Q : Value → Shared → Prop} (hlt : a.natAbs.log2 < 1920) (h : ∀ t' k, Q (.str (Txt.rjust (commaS a) 8) t') { s with toks := k }) : wpAny (model prog w) A (formatField (.int a t) (Str.ofString ">8,")) Q E s := by
  have htx := spec8_text a
  have hlen : (PyProof.Rows.intSpecText f8c a).length ≤ sizeLine := by
    rw [htx]
    have h1 := commaS_len hlt
    have h2 := sizeLine_eq
    unfold Txt.rjust
    split
    · omega
    · show Array.size _ ≤ _
      simp only [padded, Array.size_append, Array.size_replicate]
      have : (commaS a).cps.size = (commaS a).length := rfl
      omega
  rw [← htx] at h
  refine KXf.field_int rfl (by decide +kernel) (by decide +kernel) (fun u => ?_) h
  apply KPc.meets_of
  intro prog w A s Q E h
  unfold Builtin.«int.__format__»
  refine wpAny_bind (wpAny_of_eq (a := (_, _)) rfl ?_)
  refine wpAny_bind (wpAny_of_eq (a := _) rfl ?_)
  kxf_if
  refine wpAny_bind (wpAny_typeNameOf (T := "str") (typeIs_str _ _ _) (by decide) fun _ => ?_)
  refine wpAny_bind (wpAny_of_eq (a := some _) rfl ?_)
  kxf_if
  kxf_if
  refine wpAny_bind (PyProof.Rows.wpAny_typeNameOfCut_int ?_)
  rw [parse_c8]
  dsimp only
  (repeat kxf_if)
  refine wpAny_bind (wpAny_of_eq (PyProof.Rows.overDigitLimit_small hlt) ?_)
  (repeat kxf_if)
  have e : ∀ {X : Str}, X = PyProof.Rows.intSpecText f8c a → wpAny (model prog w) A (retStr X) Q E s := fun e => KXf.ret_text e (by rw [e]; exact hlen) h
  refine e ?_
  unfold PyProof.Rows.intSpecText
  clear e h
  kernel_rfl
end
end
end Cs
namespace L2
open PySem PySem.Spec PyProof.Rows
section
variable {X : Cx}
/-- {x:<8}: a text -/
def tFmtS8 (te : TE) : TE := fun σ H Q => te σ H fun x H1 => ∃ y : Str, x = .str y ∧ y.length ≤ 1000000 ∧ Q (.str (Txt.ljust y 8)) H1
theorem pe_fmtS8 {e : Expr} {te : TE} {pos p1 p2 : Pos} {k : Nat} (he : PE X e te) : PE X (.FormattedValue e (-1) (some (.JoinedStr [.Constant (.str "<8") k p1] p2)) pos) (tFmtS8 te) := by
  refine ⟨fun pins s σ H Q I h => ?_⟩
  refine wpAny_FormattedValue_spec (thn (he.run pins s σ H _ I h) fun v s1 hv => ?_)
  obtain ⟨x, H1, I1, r1, y, rfl, hz, q⟩ := hv
  obtain ⟨t, rfl⟩ := r1
  have hs : tC (.str "<8") σ H1 (fun r H2 => r = .str "<8" ∧ H2 = H1) := ⟨rfl, rfl⟩
  refine thn ((pe_joined1 (X := X) (pos := p2) (pe_str (j := k) (pos := p1))).run pins s1 σ H1 _ I1 hs) fun r s2 hr => ?_
  obtain ⟨_, _, I2, r2, rfl, rfl⟩ := hr
  obtain ⟨t2, rfl⟩ := r2
  exact ⟨_, _, rfl, Cs.field_s8 hz fun t' k => ⟨.str (Txt.ljust y 8), _, I2.tok k, ⟨t', rfl⟩, q⟩⟩
/-- {x:>8,}: an int -/
def tFmtC8 (te : TE) : TE := fun σ H Q => te σ H fun x H1 => ∃ i : Int, x = .int i ∧ i.natAbs.log2 < 1920 ∧ Q (.str (Txt.rjust (Cs.commaS i) 8)) H1
theorem pe_fmtC8 {e : Expr} {te : TE} {pos p1 p2 : Pos} {k : Nat} (he : PE X e te) : PE X (.FormattedValue e (-1) (some (.JoinedStr [.Constant (.str ">8,") k p1] p2)) pos) (tFmtC8 te) := by
  refine ⟨fun pins s σ H Q I h => ?_⟩
  refine wpAny_FormattedValue_spec (thn (he.run pins s σ H _ I h) fun v s1 hv => ?_)
  obtain ⟨x, H1, I1, r1, i, rfl, hz, q⟩ := hv
  obtain ⟨t, rfl⟩ := r1
  have hs : tC (.str ">8,") σ H1 (fun r H2 => r = .str ">8," ∧ H2 = H1) := ⟨rfl, rfl⟩
  refine thn ((pe_joined1 (X := X) (pos := p2) (pe_str (j := k) (pos := p1))).run pins s1 σ H1 _ I1 hs) fun r s2 hr => ?_
  obtain ⟨_, _, I2, r2, rfl, rfl⟩ := hr
  obtain ⟨t2, rfl⟩ := r2
  exact ⟨_, _, rfl, Cs.field_c8 hz fun t' k => ⟨.str (Txt.rjust (Cs.commaS i) 8), _, I2.tok k, ⟨t', rfl⟩, q⟩⟩
/-- the text y, n times -/
def repS (y : Str) (n : Nat) : Str := ⟨(List.replicate n y.cps).foldl (· ++ ·) #[]⟩
def rRepS : V → V → Hp → VK → Prop := fun x z H Q => ∃ (y : Str) (n : Nat), x = .str y ∧ z = .int n ∧ 2 ≤ n ∧ n ≤ 1000 ∧ 1 ≤ y.length ∧ y.length ≤ 1000 ∧ (repS y n).length ≤ 1000000 ∧ Q (.str (repS y n)) H
theorem op_repS : OpR X (binaryOp .Mult) rRepS := by
  intro pins s σ H x z v u Q I rx rz h
  obtain ⟨y, n, rfl, rfl, h1, h2, h3, h4, h5, q⟩ := h
  obtain ⟨t, rfl⟩ := rx
  obtain ⟨t', rfl⟩ := rz
  have hs := sizeLine_eq
  refine PySem.P.mul_str ?_ (fun _ _ => ?_) (fun _ _ => ?_) ?_
  · rw [decide_eq_false (by omega), decide_eq_false (by omega)]
    rfl
  · have hd : (1000000 : Int) ≤ (2 ^ 63 - 1) / (n : Int) := by
      refine Int.le_ediv_of_mul_le (by omega) ?_
      have : (n : Int) ≤ 1000 := by omega
      omega
    omega
  · show decide (_ > sizeLine) = false
    refine decide_eq_false ?_
    have : y.length * (n : Int).toNat ≤ 1000 * 1000 := Nat.mul_le_mul h4 (by omega)
    omega
  · rw [if_neg (by omega)]
    have e1 : ((n : Int) == 1 || y.length == 0) = false := by
      rw [Bool.or_eq_false_iff]
      exact ⟨by simpa using (by omega : ¬ (n : Int) = 1), by simpa using (by omega : ¬ y.length = 0)⟩
    rw [if_neg (by rw [e1]; exact Bool.false_ne_true)]
    exact ⟨by show Str.length _ ≤ _; exact Nat.le_trans h5 (by omega), .str (repS y n), H, I.tok _, ⟨_, rfl⟩, q⟩
end
end L2

set_option Elab.async false
set_option linter.all false
set_option maxRecDepth 100000
set_option maxHeartbeats 4000000
set_option pp.maxSteps 600
/-! Counts.columns. -/
namespace Cs
open PySem L2
/-- a line of the columns -/
def colL (z : Str) (n : Int) : Str := Txt.ljust z 8 ++ Txt.rjust (commaS n) 8
def colS (F : Str → Int) (ws : List Str) : Str := Txt.join "\n" (ws.map fun z => colL z (F z))
def ColW (F : Str → Int) (zs ws : List Str) : Prop := zs ≠ [] ∧ ws = zs ∨ zs = [] ∧ ∃ l : Tab, Told F l ∧ ws = keys l
def spColsB (C : Addr) : Sp := fun vs H Q _ => ∃ (p d wt : Addr) (t : Tab) (zs : List Str), vs = [.ref p, .ref wt] ∧ H wt = some (.tup (zs.map V.str)) ∧ Cnt C H p d t ∧ t.length ≤ 400 ∧ zs.length ≤ 400 ∧ (∀ z ∈ zs, Word z) ∧ (∀ z, BN 200 (val t z)) ∧
  ∀ ws H', ColW (val t) zs ws → Same H H' → Q (.str (colS (val t) ws)) H'
def spCols (C : Addr) : Sp := fun vs H Q _ => ∃ (p d : Addr) (t : Tab) (zs : List Str), vs = .ref p :: zs.map V.str ∧ Cnt C H p d t ∧ t.length ≤ 400 ∧ zs.length ≤ 400 ∧ (∀ z ∈ zs, Word z) ∧ (∀ z, BN 200 (val t z)) ∧
  ∀ ws H', ColW (val t) zs ws → Same H H' → Q (.str (colS (val t) ws)) H'
theorem ljust_len {z : Str} (hz : Word z) : (Txt.ljust z 8).length ≤ 16 := by
  have h2 := hz.2.1
  unfold Txt.ljust
  split
  · omega
  · show (Array.size _) ≤ _
    simp only [Builtin.Str.padded, Array.size_append, Array.size_replicate]
    have : z.cps.size = z.length := rfl
    omega
theorem rjust_len {n : Int} (hn : BN 200 n) : (Txt.rjust (commaS n) 8).length ≤ 3900 := by
  have h1 := commaS_len (a := n) (Nat.lt_of_le_of_lt hn.log (by decide))
  unfold Txt.rjust
  split
  · omega
  · show (Array.size _) ≤ _
    simp only [Builtin.Str.padded, Array.size_append, Array.size_replicate]
    have : (commaS n).cps.size = (commaS n).length := rfl
    omega
theorem colL_len {z : Str} {n : Int} (hz : Word z) (hn : BN 200 n) : (colL z n).length ≤ 4000 := by
  have a1 := ljust_len hz
  have a2 := rjust_len hn
  unfold colL
  rw [strLen_append]
  omega
theorem colS_len {F : Str → Int} {ws : List Str} (hw : ∀ z ∈ ws, Word z) (hb : ∀ z, BN 200 (F z)) (hl : ws.length ≤ 400) : ((ws.map fun z => colL z (F z)).map (·.length)).sum ≤ 1600000 := by
  have h := sum_le (B := 4000) (ts := ws.map fun z => colL z (F z)) fun y my => by
    obtain ⟨z, hz, e⟩ := List.mem_map.mp my
    rw [← e]
    exact colL_len (hw z hz) (hb z)
  rw [List.length_map] at h
  omega
/-- a for loop over a or b, told by what holds where it begins -/
theorem for_orT {K : PySem.W.Frag} {ta tb : TE} {g : TG} {body : TS} {D : Ends} {σ : St} {H : Hp} (P : V → Hp → Prop) (h : ∀ Q' : VK, (∀ x H3, P x H3 → Q' x H3) → tOrT K ta tb σ H Q') (hk : ∀ x H3, P x H3 → tFor (iList K fun _ _ Q => Q x H3) g body D σ H3) :
    tFor (iList K (tOrT K ta tb)) g body D σ H := h _ fun x H3 hp => hk x H3 hp
section
variable {P : Program} {w : World} {K : PySem.W.Frag} {mg : Str → Option Value} {base : Heap}
theorem cols_body {C f fWo fGe : Addr} {fdWo fdGe : FuncData} {fI : Addr} {cdv : Value} {A : Around} {outer : List Env} {s : Shared} {H : Hp} {vs : List V} {Q : VK} {E : XK} (g : Bi mg) (T : CT P w K mg base C fI) (MWo : MDef P w K mg base CX0 2 C "words" ["self"] (spWords C) fWo fdWo) (SGe : GDef P w K mg base CX0 2 C "__getitem__" ["self", "word"] (spGet C) fGe fdGe)
    (hr : Room 3 (A.deeper (PyProof.Rows.envOfC "Counts.columns" (defScope s_Counts_columns) s.heap.objs.size f cdv))) (h : spColsB C vs H Q E) :
    ∃ t, PSs (cxOf CX0 P w K mg base ["self", "words", "lines", "word", "number"] "Counts.columns" (defScope s_Counts_columns) f cdv A outer s H E).nox (defBody s_Counts_columns) t ∧ t { nx := fun _ H' => Q .non H', rt := Q } (L2.start ["self", "words", "lines", "word", "number"] vs) H := by
  obtain ⟨p, d, wt, t, zs, rfl, hwt, hc, hl, hzl, hzw, hb, k⟩ := h
  have hrWo : Room 2 _ := hr.mono (by decide)
  have hrGe : Room 3 _ := hr
  obtain ⟨⟨dx, hp⟩, hd, hh, hw⟩ := id hc
  refine ⟨_, (pss_cons (ps_set (i := 2) sc_Counts_columns.nd rfl (Or.inl rfl) (pe_lst pa_nil))
      (pss_cons (ps_for PassesOwn.never rfl (pi_list (pe_orT (pe_callTy call_list_of (by rfl) g.list (by decide +kernel) (pa_cons (pv 1) pa_nil)) (pe_one (pe_meth0 (pv 0) T.cl MWo.me MWo.ok hrWo MWo.b .nil pass0)))) (pg_name (i := 3) sc_Counts_columns.nd rfl (Or.inl rfl)) (pss_cons (ps_set (i := 4) sc_Counts_columns.nd rfl (Or.inl rfl) (pe_ixO SGe.c SGe.fi SGe.ok hrGe SGe.b pass0 (pv 0) (pv 3)))
      (pss_one (ps_expr (pe_bm PySem.F.plainAttrs_list PySem.F.slot_list_append PySem.F.type_list_append mt_append (pv 2) (pa_cons (pe_jn (PJ.cons (pe_fmtS8 (pv 3)) (PJ.cons (pe_fmtC8 (pv 4)) PJ.nil))) pa_nil))))))
      (pss_one (ps_ret (pe_join pe_str (pv 2)))))), ?_⟩
  refine ⟨Nat.zero_le _, fun ll hll => ?_⟩
  have s1 : Same H (upd H ll (.lst [])) := Same.new hll
  have h1 : (upd H ll (.lst [])) ll = some (.lst []) := upd_same
  generalize upd H ll (.lst []) = H1 at s1 h1
  dsimp only [tSeq, gName]
  show tFor (iList K (tOrT K (tCB _ (tCons (tVar 1) tNil)) (tMeth C "words" (spWords C) [] E0 (tVar 0) tNil))) (gName 3) _ _ [some (.ref p), some (.ref wt), some (.ref ll), none, none] H1
  refine for_orT (fun x H3 => ∃ (wl : Addr) (ws : List Str), x = .ref wl ∧ ColW (val t) zs ws ∧ (∀ z ∈ ws, Word z) ∧ ws.length ≤ 400 ∧ Same H1 H3 ∧ H1 wl = none ∧ H3 wl = some (.lst (ws.map V.str))) (fun Q' next => ?_) ?_
  · refine ⟨_, rfl, wt, _, rfl, .inr (SqT.of (s1 _ _ hwt)), fun l2 hl2 => ?_⟩
    have s2 : Same H1 (upd H1 l2 (.lst (zs.map V.str))) := Same.new hl2
    have h2 : (upd H1 l2 (.lst (zs.map V.str))) l2 = some (.lst (zs.map V.str)) := upd_same
    refine ⟨_, .inl ⟨_, SqL.of h2, rfl⟩, ?_⟩
    cases zs with
    | cons z zr => exact next _ _ ⟨l2, z :: zr, rfl, .inl ⟨by simp, rfl⟩, hzw, hzl, s2, hl2, h2⟩
    | nil =>
      show tMeth C _ _ [] E0 (tVar 0) tNil _ _ _
      have s12 := s1.trans s2
      refine ⟨_, rfl, p, dx, _, rfl, s12 _ _ hp, rfl, p, d, t, rfl, hc.same s12, by omega, fun q H3 ws hq s3 h3 ha hm hle => ?_⟩
      refine next _ _ ⟨q, ws, rfl, .inr ⟨rfl, _, hh.told ha hm, ?_⟩, fun z hz => hw z ((hm z).mp hz), by omega, s2.trans s3, s2.free hq, h3⟩
      unfold keys
      rw [List.map_map]
      exact (List.map_id _).symm
  rintro x H3 ⟨wl, ws, rfl, hcw, hww, hwl, s3, hwl0, h3⟩
  have nlw : ll ≠ wl := ne_of_none h1 hwl0
  have hll3 := s3 _ _ h1
  have s13 := s1.trans s3
  refine ⟨wl, rfl, ⟨_, SqL.of h3⟩, for_list (K := K) (a := wl) (xs := ws.map V.str) (fun i σ' H' => (∃ x3 x4 : Option V, σ' = [some (.ref p), some (.ref wt), some (.ref ll), x3, x4]) ∧ H' ll = some (.lst ((ws.take i).map fun z => V.str (colL z (val t z)))) ∧ ∀ b o, H3 b = some o → b ≠ ll → H' b = some o) ⟨⟨_, _, rfl⟩, hll3, fun b o e _ => e⟩ (fun i σ' H' _ h => SqL.of (h.2.2 _ _ h3 nlw.symm)) ?_ ?_⟩
  · rintro i y σ' H' hy ⟨⟨x3, x4, rfl⟩, hl', kp⟩
    obtain ⟨z, ez, rfl⟩ : ∃ z, ws[i]? = some z ∧ y = V.str z := by
      rw [List.getElem?_map] at hy
      cases e : ws[i]? with
      | none => rw [e] at hy; cases hy
      | some z => rw [e] at hy; exact ⟨z, rfl, (Option.some.inj hy).symm⟩
    have hz : Word z := hww z (List.mem_of_getElem? ez)
    have hil : i < ws.length := (List.getElem?_eq_some_iff.mp ez).1
    have hc' : Cnt C H' p d t := by
      have c3 := hc.same s13
      obtain ⟨⟨dx, a1⟩, b1, c1, d1⟩ := c3
      exact ⟨⟨dx, kp _ _ a1 (ne_of a1 hll3 (by intro z; cases z))⟩, kp _ _ b1 (ne_of b1 hll3 (by intro z; cases z)), c1, d1⟩
    obtain ⟨⟨dx', hp'⟩, _⟩ := id hc'
    refine ⟨_, rfl, _, rfl, p, dx', _, rfl, hp', p, d, t, z, rfl, hz, hc', fun H2 s2 => ?_⟩
    refine ⟨_, rfl, .inl ⟨rfl, _, SqL.of (s2 _ _ hl')⟩, _, rfl, z, rfl, Nat.le_trans hz.2.1 (by decide), _, rfl, ?_, ?_⟩
    · rw [empty_app]
      exact Nat.le_trans (ljust_len hz) (by decide)
    · rw [empty_app]
      refine ⟨_, rfl, _, rfl, Nat.lt_of_le_of_lt (hb z).log (by decide), _, rfl, ?_, ?_⟩
      · exact Nat.le_trans (colL_len hz (hb z)) (by decide)
      · refine ⟨ll, _, _, rfl, rfl, s2 _ _ hl', ?_, ⟨_, _, rfl⟩, ?_, fun b o e n => ?_⟩
        · rw [List.length_map, List.length_take]
          exact Nat.lt_of_le_of_lt (show min i ws.length ≤ 400 by omega) (by decide)
        · rw [upd_same, List.take_succ, ez, List.map_append]
          rfl
        · rw [upd_ne n]
          exact s2 _ _ (kp b o e n)
  · rintro σ' H' ⟨⟨x3, x4, rfl⟩, hl', kp⟩
    rw [List.length_map, List.take_length] at hl'
    have e1 : (("\n" : String) : Str).length = 1 := rfl
    have hsum := colS_len hww hb hwl
    have s0 : Same H H' := fun b o e => kp b o (s13 b o e) (ne_of_none e hll)
    refine ⟨⟨_, rfl⟩, _, rfl, _, ll, ws.map fun z => colL z (val t z), rfl, rfl, .inl (SqL.of (by rw [hl', List.map_map]; rfl)), ?_, k ws H' hcw s0⟩
    rw [List.length_map, e1]
    omega
theorem ok_columns {C f fWo fGe : Addr} {fdWo fdGe : FuncData} {fI : Addr} {oc od kV doc pm an cdv ct osl} (g : Bi mg) (T : CT P w K mg base C fI) (MWo : MDef P w K mg base CX0 2 C "words" ["self"] (spWords C) fWo fdWo) (SGe : GDef P w K mg base CX0 2 C "__getitem__" ["self", "word"] (spGet C) fGe fdGe)
    (lk : K.lookup f = some ⟨oc, od, .func (PySem.W.fnOf "columns" "Counts.columns" (defArgs s_Counts_columns) (defBody s_Counts_columns) (defScope s_Counts_columns) .none kV doc pm an cdv ct), osl⟩) (hcd : PySem.W.codeIn K cdv "Counts.columns" = true) :
    FnR P w K mg base CX0 4 f (spCols C) := by
  have G := StX.fn_star (P := P) (w := w) (mg := mg) (base := base) (CX := CX0) (k := 3) (ps := ["self"]) (pv := "words") (sp := spColsB C) lk hcd sc_Counts_columns StX.cxUp_none
    (fun us rest hl => match us, rest, hl with | [a], [], _ => rfl | [a], r :: rs, _ => rfl)
    (fun A outer s H vs Q E hr h => by
      obtain ⟨t, a, b⟩ := cols_body (P := P) (w := w) (mg := mg) (base := base) (outer := outer) (s := s) g T MWo SGe hr h
      exact ⟨t, a.nox, b⟩)
  refine G.imp fun vs H Q E h => ?_
  obtain ⟨p, d, t, zs, rfl, hc, hl, hz, hzw, hb, k⟩ := h
  refine ⟨[.ref p], zs.map V.str, rfl, rfl, by rw [List.length_map]; exact Nat.le_trans hz (by decide), fun q hq => ?_⟩
  have s1 : Same H (upd H q (.tup (zs.map V.str))) := Same.new hq
  exact ⟨p, d, q, t, zs, rfl, upd_same, hc.same s1, hl, hz, hzw, hb, fun ws H' c s2 => k ws H' c (s1.trans s2)⟩
end
end Cs

set_option Elab.async false
set_option linter.all false
set_option maxRecDepth 100000
set_option maxHeartbeats 4000000
set_option pp.maxSteps 600
/-! The law's own commas and lines. -/
namespace Cs
open PySem L2
def mkS (ds : List Nat) : Str := ⟨ds.toArray⟩
theorem mkS_len (ds : List Nat) : (mkS ds).length = ds.length := by show (List.toArray ds).size = _; rw [List.size_toArray]
theorem cutS_tail {ds : List Nat} (h : 3 < ds.length) : cutS (mkS ds) (some (-3)) none = mkS (ds.drop (ds.length - 3)) := by
  unfold cutS
  rw [mkS_len]
  have e1 : HT.sIx ds.length 0 (some (-3)) = ds.length - 3 := by
    show (if (-3 : Int) < 0 then ((-3 : Int) + (ds.length : Int)).toNat else min (-3 : Int).toNat ds.length) = _
    rw [if_pos (by decide)]
    omega
  have e2 : HT.sIx ds.length ds.length none = ds.length := rfl
  rw [e1, e2]
  unfold mkS
  show (⟨((ds.drop (ds.length - 3)).take (ds.length - (ds.length - 3))).toArray⟩ : Str) = _
  rw [List.take_of_length_le (by rw [List.length_drop]; omega)]
theorem cutS_head {ds : List Nat} (h : 3 < ds.length) : cutS (mkS ds) none (some (-3)) = mkS (ds.take (ds.length - 3)) := by
  unfold cutS
  rw [mkS_len]
  have e1 : HT.sIx ds.length ds.length (some (-3)) = ds.length - 3 := by
    show (if (-3 : Int) < 0 then ((-3 : Int) + (ds.length : Int)).toNat else min (-3 : Int).toNat ds.length) = _
    rw [if_pos (by decide)]
    omega
  have e2 : HT.sIx ds.length 0 none = 0 := rfl
  rw [e1, e2]
  rfl
/-- groups, each behind a comma -/
def flat (gs : List (List Nat)) : List Nat := (gs.map fun g => 44 :: g).flatten
theorem join_comm : ∀ (gs : List (List Nat)) (x : List Nat), Txt.join "," (mkS x :: gs.map mkS) = mkS (x ++ flat gs)
  | [], x => by
    rw [TL.join_eq]
    show mkS x = _
    simp [flat]
  | y :: r, x => by
    have ih := join_comm r y
    rw [TL.join_eq] at ih ⊢
    show mkS x ++ "," ++ Str.join "," (mkS y :: r.map mkS) = _
    rw [ih]
    refine str_ext ?_
    rw [Str.cps_append, Str.cps_append, Array.toList_append, Array.toList_append]
    show (x ++ [44]) ++ (y ++ flat r) = x ++ flat (y :: r)
    simp [flat]
theorem flat_len (gs : List (List Nat)) : (flat gs).length = ((gs.map mkS).map (·.length)).sum + gs.length := by
  induction gs with
  | nil => rfl
  | cons x r ih =>
    have : flat (x :: r) = 44 :: (x ++ flat r) := by simp [flat]
    rw [this, List.length_cons, List.length_append, ih, List.map_cons, List.map_cons, List.sum_cons, mkS_len, List.length_cons]
    omega
theorem text_digs (n : Int) : Str.ofString (toString (if n < 0 then -n else n)) = mkS (digs n) := by
  have e : (if n < 0 then -n else n) = Int.ofNat n.natAbs := by
    by_cases h : n < 0
    · rw [if_pos h]; show -n = (n.natAbs : Int); omega
    · rw [if_neg h]; show n = (n.natAbs : Int); omega
  rw [e, PyProof.Rows.text_ofNat]
  rfl
def spCommas : Sp := fun vs H Q _ => ∃ n : Int, vs = [.int n] ∧ n.natAbs.log2 < 1920 ∧ ∀ H', Same H H' → Q (.str (commaS n)) H'
def spLine : Sp := fun vs H Q _ => ∃ (z : Str) (n : Int), vs = [.str z, .int n] ∧ Word z ∧ BN 200 n ∧ ∀ H', Same H H' → Q (.str (colL z n)) H'
section
variable {P : Program} {w : World} {K : PySem.W.Frag} {mg : Str → Option Value} {base : Heap}
theorem ok_commas {f : Addr} {fd : FuncData} (F : Fun K "_law_commas" "_law_commas" s_l_commas f fd) (g : Bi mg) : FnOk P w K mg base CX0 1 f fd ["_law_number_here"] spCommas := by
  refine F.ok sc_l_commas (fun vs H Q E h => ?_) (fun cdv A outer s H vs Q E hr h => ?_)
  · obtain ⟨_, rfl, _⟩ := h
    rfl
  · obtain ⟨n, rfl, hn, k⟩ := h
    have hu := hu_of hr
    have hnn : (if n < 0 then -n else n).natAbs.log2 < 1920 := by
      have : (if n < 0 then -n else n).natAbs = n.natAbs := by split <;> omega
      rw [this]
      exact hn
    have hdl := digs_len hn
    have htl := comm_len (digs n).length (digs n)
    refine ⟨_, (pss_cons (ps_set (i := 1) sc_l_commas.nd rfl (Or.inl rfl) (pe_callTy call_str_int (by rfl) g.str (by decide +kernel) (pa_cons (pe_callB call_abs (by rfl) g.abs (by decide +kernel) (pa_cons (pv 0) pa_nil)) pa_nil)))
      (pss_cons (ps_set (i := 2) sc_l_commas.nd rfl (Or.inl rfl) (pe_lst pa_nil))
      (pss_cons (ps_while PassesOwn.never (pt_cmpR op_gt (pe_callB call_len (by rfl) g.len PySem.boot_len (pa_cons (pv 1) pa_nil)) pe_int (nomark _)) (pss_cons (ps_set (i := 2) sc_l_commas.nd rfl (Or.inl rfl) (pe_op op_cat (pe_lst (pa_cons (pe_slice sl_str (pv 1) (po_some (pe_un un_neg pe_int)) po_none) pa_nil)) (pv 2)))
      (pss_one (ps_set (i := 1) sc_l_commas.nd rfl (Or.inl rfl) (pe_slice sl_str (pv 1) po_none (po_some (pe_un un_neg pe_int)))))))
      (pss_cons (ps_set (i := 3) sc_l_commas.nd rfl (Or.inl rfl) (pe_join pe_str (pe_op op_cat (pe_lst (pa_cons (pv 1) pa_nil)) (pv 2))))
      (pss_one (ps_ret (pe_ifExp (pt_cmpR op_lt (pv 0) pe_int (nomark _)) (pe_op op_add_str pe_str (pv 3)) (pv 3)))))))), ?_⟩
    refine ⟨_, rfl, _, rfl, _, rfl, hnn, Nat.zero_le _, fun l0 hl0 => ?_⟩
    have s1 : Same H (upd H l0 (.lst [])) := Same.new hl0
    have h1 : (upd H l0 (.lst [])) l0 = some (.lst []) := upd_same
    generalize upd H l0 (.lst []) = H1 at s1 h1
    rw [text_digs]
    refine ⟨fun m σ' H' => ∃ (ds : List Nat) (gs : List (List Nat)) (l : Addr), σ' = [some (.int n), some (.str (mkS ds)), some (.ref l), none] ∧ m = ds.length ∧ H' l = some (.lst (gs.map fun g => V.str (mkS g))) ∧ Same H H' ∧ comm ds.length ds ++ flat gs = comm (digs n).length (digs n), ⟨_, digs n, [], l0, rfl, rfl, h1, s1, by simp [flat]⟩, ?_⟩
    rintro m σ' H' ⟨ds, gs, l, rfl, rfl, hl, s', he⟩
    have hb1 := comm_ge ds.length ds
    have hb2 : (comm ds.length ds).length + (flat gs).length ≤ 3842 := by
      rw [← List.length_append, he]
      omega
    have hb3 := flat_len gs
    have big : 100000 ≤ sizeLine := by decide
    refine ⟨_, rfl, _, ds.length, rfl, ?_, _, _, rfl, rfl, _, rfl, ?_⟩
    · exact ⟨by rw [mkS_len]; omega, (mkS_len ds).symm⟩
    · dsimp only
      by_cases c : 3 < ds.length
      · rw [if_pos (decide_eq_true (by omega))]
        refine ⟨_, fun _ _ q => q, ?_⟩
        refine ⟨_, rfl, _, rfl, _, rfl, _, rfl, by rw [mkS_len]; omega, ?_⟩
        rw [show (-(3 : Int)) = -3 from rfl, cutS_tail c]
        refine ⟨by show 1 ≤ sizeLine; omega, fun l1 hl1 => ?_⟩
        have s2 : Same H' (upd H' l1 (.lst [.str (mkS (ds.drop (ds.length - 3)))])) := Same.new hl1
        have h2 : (upd H' l1 (.lst [.str (mkS (ds.drop (ds.length - 3)))])) l1 = some (.lst [.str (mkS (ds.drop (ds.length - 3)))]) := upd_same
        generalize upd H' l1 (.lst [.str (mkS (ds.drop (ds.length - 3)))]) = H2 at s2 h2
        refine ⟨_, rfl, l1, l, _, _, rfl, rfl, h2, s2 _ _ hl, by rw [List.length_map]; show 1 + gs.length ≤ _; omega, fun l3 hl3 => ?_⟩
        refine ⟨_, rfl, _, rfl, _, rfl, _, rfl, by rw [mkS_len]; omega, ?_⟩
        rw [show (-(3 : Int)) = -3 from rfl, cutS_head c]
        have s3 : Same H2 (upd H2 l3 (.lst ([V.str (mkS (ds.drop (ds.length - 3)))] ++ gs.map fun g => V.str (mkS g)))) := Same.new hl3
        refine ⟨ds.length - 3, by omega, ds.take (ds.length - 3), ds.drop (ds.length - 3) :: gs, l3, rfl, by rw [List.length_take]; omega, upd_same, (s'.trans s2).trans s3, ?_⟩
        rw [← he]
        obtain ⟨j, ej⟩ : ∃ j, ds.length = j + 1 := ⟨ds.length - 1, by omega⟩
        have e1 : comm ds.length ds = comm j (ds.take (ds.length - 3)) ++ 44 :: ds.drop (ds.length - 3) := by
          conv => lhs; rw [ej]
          show (if ds.length ≤ 3 then ds else _) = _
          rw [if_neg (by omega)]
        have e2 : comm (ds.take (ds.length - 3)).length (ds.take (ds.length - 3)) = comm j (ds.take (ds.length - 3)) := comm_fuel _ _ _ (Nat.le_refl _) (by rw [List.length_take]; omega)
        rw [e1, e2]
        simp [flat]
      · rw [if_neg (by rw [decide_eq_true_iff]; omega)]
        rw [comm_short (by omega)] at he
        refine ⟨⟨_, rfl⟩, _, rfl, by show 1 ≤ sizeLine; omega, fun l1 hl1 => ?_⟩
        have s2 : Same H' (upd H' l1 (.lst [.str (mkS ds)])) := Same.new hl1
        have h2 : (upd H' l1 (.lst [.str (mkS ds)])) l1 = some (.lst [.str (mkS ds)]) := upd_same
        generalize upd H' l1 (.lst [.str (mkS ds)]) = H2 at s2 h2
        refine ⟨_, rfl, l1, l, _, _, rfl, rfl, h2, s2 _ _ hl, by rw [List.length_map]; show 1 + gs.length ≤ _; omega, fun l3 hl3 => ?_⟩
        have s3 : Same H2 (upd H2 l3 (.lst ([V.str (mkS ds)] ++ gs.map fun g => V.str (mkS g)))) := Same.new hl3
        have h3 : (upd H2 l3 (.lst ([V.str (mkS ds)] ++ gs.map fun g => V.str (mkS g)))) l3 = some (.lst ((mkS ds :: gs.map mkS).map V.str)) := by
          rw [upd_same, List.map_cons, List.map_map]
          rfl
        generalize upd H2 l3 (.lst ([V.str (mkS ds)] ++ gs.map fun g => V.str (mkS g))) = H3 at s3 h3
        have s13 := (s'.trans s2).trans s3
        have e1 : ((",") : Str).length = 1 := rfl
        refine ⟨_, l3, mkS ds :: gs.map mkS, rfl, rfl, .inl (SqL.of h3), ?_, ?_⟩
        · rw [e1, List.map_cons, List.sum_cons, mkS_len, List.length_cons, List.length_map]
          omega
        rw [join_comm, he]
        refine ⟨_, rfl, _, _, rfl, rfl, _, rfl, ?_⟩
        dsimp only
        by_cases c0 : n < 0
        · rw [if_pos (decide_eq_true c0)]
          refine ⟨_, rfl, _, _, rfl, rfl, ?_, ?_⟩
          · rw [mkS_len]
            show 1 + _ ≤ _
            omega
          · have e2 : commaS n = "-" ++ mkS (comm (digs n).length (digs n)) := by
              unfold commaS
              rw [if_pos c0]
              refine str_ext ?_
              rw [Str.cps_append, Array.toList_append]
              rfl
            rw [← e2]
            exact k H3 s13
        · rw [if_neg (by rw [decide_eq_true_iff]; exact c0)]
          refine ⟨_, rfl, ?_⟩
          have e2 : commaS n = mkS (comm (digs n).length (digs n)) := by
            unfold commaS
            rw [if_neg c0]
            rfl
          rw [← e2]
          exact k H3 s13
theorem ok_line {f fCo : Addr} {fd fdCo : FuncData} (F : Fun K "_law_line" "_law_line" s_l_line f fd) (g : Bi mg) (FCo : Def P w K mg base CX0 1 "_law_commas" ["_law_number_here"] spCommas fCo fdCo) : FnOk P w K mg base CX0 2 f fd ["_law_word_here", "_law_number_here"] spLine := by
  obtain ⟨GCo, mCo, _, bCo⟩ := id FCo
  refine F.ok sc_l_line (fun vs H Q E h => ?_) (fun cdv A outer s H vs Q E hr h => ?_)
  · obtain ⟨_, _, rfl, _⟩ := h
    rfl
  · obtain ⟨z, n, rfl, hz, hn, k⟩ := h
    have hrCo : Room 1 _ := hr.mono (by decide)
    refine ⟨_, (pss_one (ps_ret (pe_op op_add_str (pe_bm PySem.F.plainAttrs_str PySem.F.slot_str_ljust PySem.F.type_str_ljust mt_ljust (pv 0) (pa_cons pe_int pa_nil)) (pe_bm PySem.F.plainAttrs_str PySem.F.slot_str_rjust PySem.F.type_str_rjust mt_rjust (pe_call GCo hrCo rfl mCo FCo.kp bCo .nil pass0 (pa_cons (pv 1) pa_nil)) (pa_cons pe_int pa_nil))))), ?_⟩
    refine ⟨_, rfl, rfl, _, 8, rfl, rfl, by decide +kernel, _, rfl, n, rfl, Nat.lt_of_le_of_lt hn.log (by decide), fun H' s' => ?_⟩
    refine ⟨rfl, _, 8, rfl, rfl, by decide +kernel, _, _, rfl, rfl, ?_, k H' s'⟩
    have := ljust_len hz
    have := rjust_len hn
    have : 10000 ≤ sizeLine := by decide
    omega
end
end Cs


set_option Elab.async false
set_option linter.all false
set_option maxRecDepth 100000
set_option maxHeartbeats 8000000
set_option pp.maxSteps 800
/-! The law of columns and texts. -/
namespace Cs
open PySem L2
theorem cut3 (a b c : Str) (r : List Str) : cutV ((a :: b :: c :: r).map V.str) none (some 3) = [a, b, c].map V.str := by
  unfold cutV
  have e : HT.sIx ((a :: b :: c :: r).map V.str).length ((a :: b :: c :: r).map V.str).length (some 3) = 3 := by
    rw [show (3 : Int) = ((3 : Nat) : Int) from rfl, HT.sIx_nat, List.length_map, List.length_cons, List.length_cons, List.length_cons]
    omega
  rw [e]
  rfl
def sMain : Str := "main"
theorem wMain : Word sMain := ⟨by decide, by decide, by decide +kernel⟩
theorem last_at {ks : List Str} (h : ks ≠ []) : ∃ z, z ∈ ks ∧ atI (ks.map V.str) (-1) = some (.str z) := by
  refine ⟨ks.getLast h, List.getLast_mem h, ?_⟩
  have e := List.dropLast_concat_getLast h
  have q : ks.map V.str = (ks.dropLast).map V.str ++ [V.str (ks.getLast h)] := by rw [show [V.str (ks.getLast h)] = [ks.getLast h].map V.str from rfl, ← List.map_append, e]
  rw [q]
  exact atI_last _ _
theorem neS (x : Str) : (!decide (V.str x = V.str x)) = false := by simp
theorem iteF' {b : Bool} {A B : Prop} (h : b = false) (q : B) : if b = true then A else B := by rw [h]; exact q
theorem neS' {x y : Str} (h : x = y) : (!decide (V.str x = V.str y)) = false := by rw [h]; simp
theorem colS_one (F : Str → Int) (z : Str) : colS F [z] = colL z (F z) := by
  unfold colS
  rw [TL.join_eq]
  rfl
theorem told_cols {F : Str → Int} {l : Tab} (h : Told F l) : (l.map fun q => V.str (colL q.1 q.2)) = ((keys l).map fun z => colL z (F z)).map V.str := by
  conv => lhs; rw [h.form]
  rw [List.map_map, List.map_map]
  rfl
theorem told_nil : Told (val []) [] := ⟨List.Pairwise.nil, fun z n => ⟨fun h => (nomatch h), fun h => absurd h.1 h.2⟩⟩
theorem colW_one {F : Str → Int} {zs : List Str} (h : zs ≠ []) {ws : List Str} (c : ColW F zs ws) : ws = zs := by
  rcases c with ⟨_, e⟩ | ⟨e, _⟩
  · exact e
  · exact absurd e h
theorem colW_nil {F : Str → Int} {l : Tab} (hl : Told F l) {ws : List Str} (c : ColW F [] ws) : ws = keys l := by
  rcases c with ⟨e, _⟩ | ⟨_, l2, h2, rfl⟩
  · exact absurd rfl e
  · rw [told_eq h2 hl fun _ => rfl]
section
variable {P : Program} {w : World} {K : PySem.W.Frag} {mg : Str → Option Value} {base : Heap}
theorem ok_law {C f fI fS fP fMo qO fO fW fD fTo fCs fLn fEq fRe : Addr} {fd fdS fdP fdMo fdW fdD fdTo fdLn fdEq fdRe : FuncData} {mc : Value} (F : Fun K "law" "law" s_law f fd) (g : Bi mg) (mrepr : mg "repr" = none) (T : CT P w K mg base C fI)
    (FS : Def P w K mg base CX0 1 "_law_source" ["_law_script"] (spSource K) fS fdS) (FP : Def P w K mg base CX0 4 "_law_pairs" ["_law_source_here", "_law_most"] spPairs fP fdP) (FMo : Def P w K mg base CX0 1 "_law_model" ["_law_pairs_here"] spModel fMo fdMo)
    (MOf : KDef P w K mg base CX0 4 C mc "of" (spOf K C) qO fO) (FW : Def P w K mg base CX0 3 "_law_word" ["_law_source_here"] spWord fW fdW) (FD : Def P w K mg base CX0 2 "_law_draw" ["_law_source_here", "_law_size"] spDraw fD fdD)
    (FTo : Def P w K mg base CX0 1 "_law_told" ["_law_model_here"] spTold fTo fdTo) (MCs : RDef P w K mg base CX0 4 C "columns" (spCols C) fCs) (FLn : Def P w K mg base CX0 2 "_law_line" ["_law_word_here", "_law_number_here"] spLine fLn fdLn)
    (MRe : SDef P w K mg base CX0 3 C "__repr__" ["self"] (spRepr C) fRe fdRe) (FEq : Def P w K mg base CX0 4 "_law_equal" ["_law_counts", "_law_model_here"] (spEqual C) fEq fdEq) :
    FnOk P w K mg base CX0 6 f fd ["_law_script"] (spLaw K) := by
  obtain ⟨GS, mS, _, bS⟩ := id FS
  obtain ⟨GP, mP, _, bP⟩ := id FP
  obtain ⟨GMo, mMo, _, bMo⟩ := id FMo
  obtain ⟨GW, mW, _, bW⟩ := id FW
  obtain ⟨GD, mD, _, bD⟩ := id FD
  obtain ⟨GTo, mTo, _, bTo⟩ := id FTo
  obtain ⟨GLn, mLn, _, bLn⟩ := id FLn
  obtain ⟨GEq, mEq, _, bEq⟩ := id FEq
  refine F.ok sc_law (fun vs H Q E h => ?_) (fun cdv A outer s H vs Q E hr h => ?_)
  · obtain ⟨_, _, rfl, _⟩ := h
    rfl
  · obtain ⟨a, ns, rfl, hS, hlen, k⟩ := h
    have hrS : Room 1 _ := hr.mono (by decide)
    have hrP : Room 4 _ := hr.mono (by decide)
    have hrMo : Room 1 _ := hr.mono (by decide)
    have hrOf : Room 4 _ := hr.mono (by decide)
    have hrW : Room 3 _ := hr.mono (by decide)
    have hrD : Room 2 _ := hr.mono (by decide)
    have hrTo : Room 1 _ := hr.mono (by decide)
    have hrCs : Room 4 _ := hr.mono (by decide)
    have hrLn : Room 2 _ := hr.mono (by decide)
    have hrRe : Room 4 _ := hr.mono (by decide)
    have hrI : Room 2 _ := hr.mono (by decide)
    have hrEq : Room 4 _ := hr.mono (by decide)
    have hu := hu_of hr
    refine ⟨_, (pss_cons (ps_set (i := 1) sc_law.nd rfl (Or.inl rfl) (pe_call GS hrS rfl mS FS.kp bS .nil pass0 (pa_cons (pv 0) pa_nil)))
      (pss_cons (ps_set (i := 2) sc_law.nd rfl (Or.inl rfl) (pe_call GP hrP rfl mP FP.kp bP .nil pass0 (pa_cons (pv 1) (pa_cons pe_int pa_nil))))
      (pss_cons (ps_set (i := 3) sc_law.nd rfl (Or.inr rfl) (pe_call GMo hrMo rfl mMo FMo.kp bMo .nil pass0 (pa_cons (pv 2) pa_nil)))
      (pss_cons (ps_set (i := 4) sc_law.nd rfl (Or.inl rfl) (ClX.pe_cmeth (pe_glob (v := .ref C) rfl T.mgC rfl) MOf.r MOf.c MOf.ok hrOf pass0 (pa_cons (pv 2) pa_nil)))
      (pss_cons (ps_set (i := 5) sc_law.nd rfl (Or.inl rfl) (pe_lst pa_nil))
      (pss_cons (ps_for PassesOwn.never rfl (pi_range1 rfl g.range (pa_cons (pe_call GD hrD rfl mD FD.kp bD .nil pass0 (pa_cons (pv 1) (pa_cons pe_int pa_nil))) pa_nil)) (pg_name (i := 6) sc_law.nd rfl (Or.inl rfl)) (pss_cons (ps_set (i := 7) sc_law.nd rfl (Or.inl rfl) (pe_call GW hrW rfl mW FW.kp bW .nil pass0 (pa_cons (pv 1) pa_nil)))
      (C8.pss_cut (ps_if (PW.pt (pw_and (pt_cmpR op_gt (pe_callB call_len (by rfl) g.len PySem.boot_len (pa_cons (pv 2) pa_nil)) pe_int (nomark _)) (pw_and1 (pt_cmpR op_eq (pe_call GD hrD rfl mD FD.kp bD .nil pass0 (pa_cons (pv 1) (pa_cons pe_int pa_nil))) pe_int (nomark _))))) (pss_one (ps_set (i := 7) sc_law.nd rfl (Or.inl rfl) (pe_ix ix_tup (pe_ix ix_list (pv 2) (pe_call GD hrD rfl mD FD.kp bD .nil pass0 (pa_cons (pv 1) (pa_cons (pe_callB call_len (by rfl) g.len PySem.boot_len (pa_cons (pv 2) pa_nil)) pa_nil))) (fun _ _ => rfl)) pe_int (fun _ _ => rfl)))) pss_nil)
      (pss_one (ps_expr (pe_bm PySem.F.plainAttrs_list PySem.F.slot_list_append PySem.F.type_list_append mt_append (pv 5) (pa_cons (pv 7) pa_nil)))))))
      (pss_cons (ps_while PassesOwn.never (pt_cmpR op_lt (pe_callB call_len (by rfl) g.len PySem.boot_len (pa_cons (pv 5) pa_nil)) pe_int (nomark _)) (pss_one (ps_expr (pe_bm PySem.F.plainAttrs_list PySem.F.slot_list_append PySem.F.type_list_append mt_append (pv 5) (pa_cons pe_str pa_nil)))))
      (pss_cons (ps_setLc (i := 8) (own := [("_law_word_here", 7)]) (g := gName 7) (te := (tCall spLine [] _ (tCons (tVar 7) (tCons (tDGet2 (tVar 3) (tVar 7) (tC (.int 0))) tNil))))  (by rfl) sc_law.nd rfl rfl (sw_true rfl rfl rfl (by decide +kernel)) (pi_list (pe_slice sl_list (pv 5) po_none (po_some pe_int))) (blkOk_by (own := [("_law_word_here", 7)]) (N := ["_law_script", "_law_source_here", "_law_pairs_here", "_law_model_here", "_law_counts", "_law_words", "_law_k", "_law_word_here", "_law_lines", "_law_told_here", "_law_inside", "_law_pair"]) (sc := defScope s_law) (by decide +kernel)) (fun _ _ _ _ _ => (pg_name (i := 7) sc_law.nd rfl (Or.inl rfl))) (fun _ _ _ _ _ => pts_nil) (fun _ _ _ _ _ => (pe_call GLn hrLn rfl mLn FLn.kp bLn .nil pass0 (pa_cons (pv 7) (pa_cons (pe_dget2 hu (pv 3) (pv 7) pe_int ⟨rfl, rfl, rfl, rfl⟩) pa_nil)))))
      (pss_cons (ps_if (pt_cmpR op_ne (pe_methR (pv 4) T.cl MCs.me MCs.ok hrCs pass0 (pa_cons (pe_ix ix_list (pv 5) pe_int (fun _ _ => rfl)) (pa_cons (pe_ix ix_list (pv 5) pe_int (fun _ _ => rfl)) (pa_cons (pe_ix ix_list (pv 5) pe_int (fun _ _ => rfl)) pa_nil)))) (pe_join pe_str (pv 8)) (nomark _)) (pss_one (ps_ret pe_bl)) pss_nil)
      (pss_cons (ps_if (pt_cmpR op_ne (pe_methR (pv 4) T.cl MCs.me MCs.ok hrCs pass0 (pa_cons (pe_ix ix_list (pv 5) (pe_un un_neg pe_int) (fun _ _ => rfl)) pa_nil)) (pe_call GLn hrLn rfl mLn FLn.kp bLn .nil pass0 (pa_cons (pe_ix ix_list (pv 5) (pe_un un_neg pe_int) (fun _ _ => rfl)) (pa_cons (pe_dget2 hu (pv 3) (pe_ix ix_list (pv 5) (pe_un un_neg pe_int) (fun _ _ => rfl)) pe_int ⟨rfl, rfl, rfl, rfl⟩) pa_nil))) (nomark _)) (pss_one (ps_ret pe_bl)) pss_nil)
      (pss_cons (ps_set (i := 9) sc_law.nd rfl (Or.inl rfl) (pe_call GTo hrTo rfl mTo FTo.kp bTo .nil pass0 (pa_cons (pv 3) pa_nil)))
      (pss_cons (ps_if (pt_cmpR op_ne (pe_methR0 (pv 4) T.cl MCs.me MCs.ok hrCs pass0) (pe_join pe_str (pe_lc (own := [("_law_pair", 11)]) (g := gName 11) (te := (tCall spLine [] _ (tCons (tOp (rIxT K) (tVar 11) (tC (.int 0))) (tCons (tOp (rIxT K) (tVar 11) (tC (.int 1))) tNil))))  (by rfl) sc_law.nd (pi_list (pv 9)) (blkOk_by (own := [("_law_pair", 11)]) (N := ["_law_script", "_law_source_here", "_law_pairs_here", "_law_model_here", "_law_counts", "_law_words", "_law_k", "_law_word_here", "_law_lines", "_law_told_here", "_law_inside", "_law_pair"]) (sc := defScope s_law) (by decide +kernel)) (fun _ _ _ _ _ => (pg_name (i := 11) sc_law.nd rfl (Or.inl rfl))) (fun _ _ _ _ _ => pts_nil) (fun _ _ _ _ _ => (pe_call GLn hrLn rfl mLn FLn.kp bLn .nil pass0 (pa_cons (pe_ix ix_tup (pv 11) pe_int (fun _ _ => rfl)) (pa_cons (pe_ix ix_tup (pv 11) pe_int (fun _ _ => rfl)) pa_nil)))))) (nomark _)) (pss_one (ps_ret pe_bl)) pss_nil)
      (pss_cons (ps_set (i := 10) sc_law.nd rfl (Or.inl rfl) (pe_join pe_str (pe_lc (own := [("_law_pair", 11)]) (g := gName 11) (te := (tOp rAddS (tOp rAddS (tOp (rIxT K) (tVar 11) (tC (.int 0))) (tC (.str "="))) (tCB _ (tCons (tOp (rIxT K) (tVar 11) (tC (.int 1))) tNil))))  (by rfl) sc_law.nd (pi_list (pv 9)) (blkOk_by (own := [("_law_pair", 11)]) (N := ["_law_script", "_law_source_here", "_law_pairs_here", "_law_model_here", "_law_counts", "_law_words", "_law_k", "_law_word_here", "_law_lines", "_law_told_here", "_law_inside", "_law_pair"]) (sc := defScope s_law) (by decide +kernel)) (fun _ _ _ _ _ => (pg_name (i := 11) sc_law.nd rfl (Or.inl rfl))) (fun _ _ _ _ _ => pts_nil) (fun _ _ _ _ _ => (pe_op op_add_str (pe_op op_add_str (pe_ix ix_tup (pv 11) pe_int (fun _ _ => rfl)) pe_str) (pe_callTy call_str_int (by rfl) g.str (by decide +kernel) (pa_cons (pe_ix ix_tup (pv 11) pe_int (fun _ _ => rfl)) pa_nil)))))))
      (pss_cons (ps_if (PW.pt (pw_or (pt_cmpR op_ne (pe_callB (call_reprO MRe.c MRe.ok hrRe MRe.b pass0) (by rfl) mrepr (by decide +kernel) (pa_cons (pv 4) pa_nil)) (pe_op op_add_str (pe_op op_add_str pe_str (pv 10)) pe_str) (nomark _)) (pw_or (pt_cmpR op_ne (pe_callB (call_reprO MRe.c MRe.ok hrRe MRe.b pass0) (by rfl) mrepr (by decide +kernel) (pa_cons (pe_mkR0 T.mke T.ini hrI rfl T.mgC pass0) pa_nil)) pe_str (nomark _)) (pw_or1 (pt_cmpR op_ne (pe_methR0 (pe_mkR0 T.mke T.ini hrI rfl T.mgC pass0) T.cl MCs.me MCs.ok hrCs pass0) pe_str (nomark _)))))) (pss_one (ps_ret pe_bl)) pss_nil)
      (pss_cons (ps_if (pt_cmpR op_ne (pe_methR (pe_mkR0 T.mke T.ini hrI rfl T.mgC pass0) T.cl MCs.me MCs.ok hrCs pass0 (pa_cons pe_str pa_nil)) (pe_op op_add_str (pe_op op_add_str pe_str (pe_op op_repS pe_str pe_int)) pe_str) (nomark _)) (pss_one (ps_ret pe_bl)) pss_nil)
      (pss_one (ps_ret (pe_call GEq hrEq rfl mEq FEq.kp bEq .nil pass0 (pa_cons (pv 4) (pa_cons (pv 3) pa_nil)))))))))))))))))))), ?_⟩
    -- source, pairs, model, counts, words = []
    refine ⟨_, rfl, a, ns, rfl, hS, fun p c H1 hp hc s1 S1 => ?_⟩
    refine ⟨_, rfl, p, c, 8, rfl, S1, by decide, by decide, fun q H2 xs ps hq h2 hP hG hl S2 k2 => ?_⟩
    have hW : WdP ps := fun r m => (hG r m).1
    refine ⟨_, rfl, q, xs, ps, rfl, h2, hP, hW, by omega, fun m H3 hm s3 M3 => ?_⟩
    refine ⟨rfl, _, rfl, q, xs, ps, rfl, s3 _ _ h2, hP.mono (fun _ _ _ e => s3 _ _ e), hG, by omega, fun r e H4 t hr4 he4 s4 hc4 hv4 hl4 => ?_⟩
    have hvu : ∀ z, val t z = val (addUp ps) z := fun z => by rw [hv4, addUp_val]
    have hbn : ∀ z, BN 200 (val t z) := fun z => by rw [hv4]; exact (sumOf_bn hG (by omega) z).up (by decide)
    have hul : (addUp ps).length ≤ 8 := Nat.le_trans (addUp_len ps) (by omega)
    have M4 := M3.same s4
    have S4 : Src H4 p c := (S2.same s3).same s4
    have h4 : H4 q = some (.lst xs) := s4 _ _ (s3 _ _ h2)
    have hP4 : PrL H4 xs ps := hP.mono fun _ _ _ e => s4 _ _ (s3 _ _ e)
    generalize hU : addUp ps = u at hvu hul M4
    have ht10 : t.length ≤ 8 := by omega
    refine ⟨Nat.zero_le _, fun wl hwl => ?_⟩
    have s5 : Same H4 (upd H4 wl (.lst [])) := Same.new hwl
    have nwp : wl ≠ p := S4.new_p hwl
    have nwc : wl ≠ c := S4.new_c hwl
    -- the words
    refine ⟨_, rfl, p, c, 6, rfl, S4.same s5, by decide, by decide, fun v5 H5 v50 v51 S5 k5 => ?_⟩
    have hn5 : (v5.toNat : Int) = v5 := by omega
    rw [← hn5]
    refine ⟨_, rfl, by omega, by omega, for_range (lo := 0) (n := v5.toNat) (fun i σ' H' => ∃ (ws : List Str) (x6 x7 : Option V), σ' = [some (.ref a), some (.ref p), some (.ref q), some (.ref m), some (.ref r), some (.ref wl), x6, x7, none, none, none, none] ∧ ws.length = i ∧ (∀ z ∈ ws, Word z) ∧ H' wl = some (.lst (ws.map V.str)) ∧ Src H' p c ∧ ∀ b o, H4 b = some o → b ≠ p → b ≠ wl → H' b = some o)
      ⟨[], _, _, rfl, rfl, (fun _ h => nomatch h), k5 _ _ upd_same nwp, S5, fun b o q n1 _ => k5 _ _ (s5 _ _ q) n1⟩ ?_ ?_⟩
    · rintro i σ' H' hi ⟨ws, x6, x7, rfl, hwsl, hww, hw', S', k'⟩
      have nqp : q ≠ p := S1.new_p hq
      have tn : ∀ {H6 : Hp}, Kp p H' H6 → PrL H6 xs ps := fun {H6} k6 => hP4.mono fun t2 a2 b2 e2 => k6 _ _ (k' _ _ e2 (S4.tup_p e2) (ne_of_none e2 hwl)) (S4.tup_p e2)
      have hq' := k' _ _ h4 nqp (ne_of_none h4 hwl)
      refine ⟨_, rfl, p, c, rfl, S', fun z H6 hz S6 k6 => ?_⟩
      have hq6 := k6 _ _ hq' nqp
      have hw6 := k6 _ _ hw' nwp
      refine ⟨fun σ2 H7 => ∃ (z : Str) (x6 : Option V), σ2 = [some (.ref a), some (.ref p), some (.ref q), some (.ref m), some (.ref r), some (.ref wl), x6, some (.str z), none, none, none, none] ∧ Word z ∧ H7 wl = some (.lst (ws.map V.str)) ∧ Src H7 p c ∧ ∀ b o, H4 b = some o → b ≠ p → b ≠ wl → H7 b = some o, ?_, ?_⟩
      · refine ⟨_, rfl, _, _, rfl, .inl ⟨_, SqL.of hq6, rfl⟩, _, _, rfl, rfl, _, rfl, ite2 (fun z1 => ?_) (fun z1 => ?_)⟩
        · refine ⟨_, rfl, p, c, 2, rfl, S6, by decide, by decide, fun v7 H7 b0 b1 S7 k7 => ⟨rfl, _, rfl, ite2 (fun z2 => ?_) (fun z2 => ?_)⟩⟩
          · have hq7 := k7 _ _ hq6 nqp
            have hpos : 0 < xs.length := by simpa using z1
            have hxl : xs.length = ps.length := hP.length
            refine ⟨_, rfl, _, rfl, _, rfl, _, _, rfl, .inl ⟨_, SqL.of hq7, rfl⟩, p, c, _, rfl, S7, by omega, by omega, fun v8 H8 d0 d1 S8 k8 => ?_⟩
            have hj : v8.toNat < ps.length := by omega
            obtain ⟨t2, et, ht⟩ := (tn ((k6.trans k7).trans k8)).at (List.getElem?_eq_getElem hj)
            refine ⟨q, _, v8, _, rfl, rfl, SqL.of (k8 _ _ hq7 nqp), at_of (z := v8) (j := v8.toNat) (by omega) et, t2, _, 0, _, rfl, rfl, SqT.of ht, rfl, ?_⟩
            exact ⟨_, _, rfl, (hG _ (List.getElem_mem hj)).1, k8 _ _ (k7 _ _ hw6 nwp) nwp, S8, fun b o e1 n1 n2 => k8 _ _ (k7 _ _ (k6 _ _ (k' b o e1 n1 n2) n1) n1) n1⟩
          · exact ⟨z, _, rfl, hz, k7 _ _ hw6 nwp, S7, fun b o e1 n1 n2 => k7 _ _ (k6 _ _ (k' b o e1 n1 n2) n1) n1⟩
        · exact ⟨z, _, rfl, hz, hw6, S6, fun b o e1 n1 n2 => k6 _ _ (k' b o e1 n1 n2) n1⟩
      · rintro σ2 H7 ⟨z, x6, rfl, hz7, hw7, S7, k7⟩
        refine ⟨_, rfl, .inl ⟨rfl, _, SqL.of hw7⟩, _, rfl, wl, _, _, rfl, rfl, hw7, ?_, ?_⟩
        · rw [List.length_map]
          exact Nat.lt_of_le_of_lt (show ws.length ≤ 1000 by omega) (by decide)
        · refine ⟨ws ++ [z], _, _, rfl, by rw [List.length_append, hwsl]; rfl, (fun y hy => (List.mem_append.mp hy).elim (hww y) fun h => by rw [List.mem_singleton.mp h]; exact hz7), by rw [upd_same, List.map_append]; rfl, S7.keep fun b o hb e1 => ?_, fun b o e1 n1 n2 => by rw [upd_ne n2]; exact k7 b o e1 n1 n2⟩
          rw [upd_ne (by rcases hb with rfl | rfl; exact nwp.symm; exact nwc.symm)]
          exact e1
    rintro σ' H6 ⟨ws, x6, x7, rfl, hwsl, hww, hw6, S6, k6⟩
    -- what stands
    have s46 : ∀ {b : Addr} {o : HO}, H4 b = some o → b ≠ p → H6 b = some o := fun e1 n1 => k6 _ _ e1 n1 (ne_of_none e1 hwl)
    have nrp : r ≠ p := (S2.same s3).new_p hr4
    have nep : e ≠ p := (S2.same s3).new_p he4
    have nmp : m ≠ p := S2.new_p hm
    have nwr : wl ≠ r := by
      obtain ⟨⟨dx, a1⟩, _⟩ := hc4
      exact (ne_of_none a1 hwl).symm
    have nwe : wl ≠ e := (ne_of_none hc4.dc hwl).symm
    have nwm : wl ≠ m := (ne_of_none M4.dc hwl).symm
    have hc6 : Cnt C H6 r e t := by
      obtain ⟨⟨dx, a1⟩, b1, c1, d1⟩ := hc4
      exact ⟨⟨dx, s46 a1 nrp⟩, s46 b1 nep, c1, d1⟩
    have M6 : Mdl H6 m u := ⟨s46 M4.dc nmp, M4.nd, M4.wd⟩
    have hwl5 : ws.length ≤ 5 := by omega
    clear hc4 M4 s46 k6 S6 S4 h4 hP4 k5 S5
    -- at least three words
    refine ⟨fun mm σ' H' => ∃ (ws : List Str), σ' = [some (.ref a), some (.ref p), some (.ref q), some (.ref m), some (.ref r), some (.ref wl), x6, x7, none, none, none, none] ∧ mm = 3 - ws.length ∧ ws.length ≤ 5 ∧ (∀ z ∈ ws, Word z) ∧ H' wl = some (.lst (ws.map V.str)) ∧ Cnt C H' r e t ∧ Mdl H' m u, ⟨_, ws, rfl, rfl, hwl5, hww, hw6, hc6, M6⟩, ?_⟩
    clear hwl5 hww hw6 hc6 M6 hwsl
    rintro mm σ' H7 ⟨ws, rfl, rfl, hwl5, hww, hw7, hc7, M7⟩
    refine ⟨_, rfl, _, _, rfl, .inl ⟨_, SqL.of hw7, rfl⟩, _, _, rfl, rfl, _, rfl, ?_⟩
    rw [List.length_map]
    refine ite2 (fun c3 => ?_) (fun c3 => ?_)
    · have c3 : ws.length < 3 := by have := of_decide_eq_true c3; omega
      refine ⟨_, fun _ _ q => q, ?_⟩
      refine ⟨_, rfl, .inl ⟨rfl, _, SqL.of hw7⟩, wl, _, _, rfl, rfl, hw7, ?_, ?_⟩
      · rw [List.length_map]
        exact Nat.lt_of_le_of_lt (show ws.length ≤ 1000 by omega) (by decide)
      · have up : ∀ {b : Addr} {o : HO}, H7 b = some o → b ≠ wl → (upd H7 wl (.lst (ws.map V.str ++ [.str sMain]))) b = some o := fun e1 n1 => by rw [upd_ne n1]; exact e1
        refine ⟨3 - (ws ++ [sMain]).length, by rw [List.length_append, List.length_singleton]; omega, ws ++ [sMain], rfl, rfl, by rw [List.length_append, List.length_singleton]; omega, (fun y hy => (List.mem_append.mp hy).elim (hww y) fun h => by rw [List.mem_singleton.mp h]; exact wMain), by rw [upd_same, List.map_append]; rfl, ?_, ?_⟩
        · obtain ⟨⟨dx, a1⟩, b1, c1, d1⟩ := hc7
          exact ⟨⟨dx, up a1 nwr.symm⟩, up b1 nwe.symm, c1, d1⟩
        · exact ⟨up M7.dc nwm.symm, M7.nd, M7.wd⟩
    · have c3 : 3 ≤ ws.length := by
        have : ¬ ((ws.length : Int) < 3) := by simpa using c3
        omega
      obtain ⟨w0, w1, w2, wr, rfl⟩ : ∃ w0 w1 w2 wr, ws = w0 :: w1 :: w2 :: wr := by
        match ws, c3 with
        | a :: b :: c :: r, _ => exact ⟨a, b, c, r, rfl⟩
      obtain ⟨wz, hz0, hzI⟩ := last_at (ks := w0 :: w1 :: w2 :: wr) (by simp)
      have hwz := hww wz hz0
      have hwi : ∀ z ∈ [w0, w1, w2], Word z := fun z hz => hww z (by
        rcases List.mem_cons.mp hz with q | q
        · rw [q]; simp
        rcases List.mem_cons.mp q with q | q
        · rw [q]; simp
        rcases List.mem_cons.mp q with q | q
        · rw [q]; simp
        · cases q)
      -- the lines of the first three
      refine ⟨_, rfl, _, rfl, wl, _, rfl, SqL.of hw7, fun sl hsl => ?_⟩
      rw [cut3]
      have s8 : Same H7 (upd H7 sl (.lst ([w0, w1, w2].map V.str))) := Same.new hsl
      have h8 : (upd H7 sl (.lst ([w0, w1, w2].map V.str))) sl = some (.lst ([w0, w1, w2].map V.str)) := upd_same
      generalize upd H7 sl (.lst ([w0, w1, w2].map V.str)) = H8 at s8 h8
      have M8 := M7.same s8
      refine ⟨sl, rfl, ⟨_, SqL.of h8⟩, fun D hD => ?_⟩
      refine lc_it (walk_list (xs := [w0, w1, w2].map V.str)) (fun i H' => Same H8 H' ∧ H' D = some (.lst (([w0, w1, w2].take i).map fun z => V.str (colL z (val t z))))) ⟨Same.new hD, upd_same⟩ (fun i H' _ h => SqL.of (h.1 _ _ h8)) ?_ ?_
      · rintro i x H' H2' hi ⟨s', hD'⟩ ⟨rfl, hx⟩
        rw [List.length_map] at hi
        have ex : x = V.str [w0, w1, w2][i] := by
          rw [List.getElem?_map, List.getElem?_eq_getElem hi] at hx
          exact (Option.some.inj hx).symm
        subst ex
        have hz : Word [w0, w1, w2][i] := hwi _ (List.getElem_mem hi)
        have Mx := M8.same s'
        refine ⟨rfl, yes_it ?_⟩
        refine ⟨_, rfl, _, rfl, _, rfl, .inl ⟨_, .inl Mx.dc⟩, _, rfl, _, DGet.k (k := Sum.inr [w0, w1, w2][i]) Mx.dc, ?_⟩
        rw [tv_val, val_getD]
        refine ⟨_, _, rfl, hz, by rw [← hvu]; exact hbn _, fun H3' s3' => ?_⟩
        refine ⟨_, s3' _ _ hD', ?_, fun b o e1 => ?_, ?_⟩
        · rw [List.length_map, List.length_take]
          exact Nat.lt_of_le_of_lt (show min i [w0, w1, w2].length ≤ 400 by simp; omega) (by decide)
        · rw [upd_ne (ne_of_none e1 hD)]
          exact s3' _ _ (s' _ _ e1)
        · rw [upd_same, List.take_succ, List.getElem?_eq_getElem hi, List.map_append, ← hvu]
          rfl
      rintro H9 ⟨s9, hD9⟩
      have hD9 : H9 D = some (.lst (([w0, w1, w2].map fun z => colL z (val t z)).map V.str)) := by rw [hD9]; rfl
      have s79 := s8.trans s9
      have hc9 := hc7.same s79
      have M9 := M7.same s79
      have hw9 := s79 _ _ hw7
      clear hc7 M7 hw7 M8 h8 s8 s9 hD hsl
      -- columns of three words
      have e1 : (("\n" : String) : Str).length = 1 := rfl
      obtain ⟨⟨dx9, hp9⟩, hd9, hh, hwd⟩ := id hc9
      refine ⟨_, rfl, r, dx9, _, rfl, hp9, rfl, _, rfl, wl, _, 0, _, rfl, rfl, SqL.of hw9, at_of (z := 0) (j := 0) (by decide) rfl, _, rfl, wl, _, 1, _, rfl, rfl, SqL.of hw9, at_of (z := 1) (j := 1) (by decide) rfl, _, rfl, wl, _, 2, _, rfl, rfl, SqL.of hw9, at_of (z := 2) (j := 2) (by decide) rfl, r, e, t, [w0, w1, w2], rfl, hc9, by omega, by show 3 ≤ 400; decide, hwi, hbn, fun cw H10 hcw s10 => ?_⟩
      obtain rfl := colW_one (by simp) hcw
      have hsum := colS_len hwi hbn (by show 3 ≤ 400; decide)
      refine ⟨⟨_, rfl⟩, _, rfl, _, D, [w0, w1, w2].map fun z => colL z (val t z), rfl, rfl, .inl (SqL.of (s10 _ _ hD9)), by rw [List.length_map, e1]; show _ + 3 * 1 ≤ _; omega, ?_⟩
      refine ⟨rfl, _, rfl, iteF' (neS _) ?_⟩
      -- columns of the last word
      have s9' := s10
      have hcA := hc9.same s9'
      have MA := M9.same s9'
      have hwA := s9' _ _ hw9
      clear hc9 M9 hw9 hp9 hd9 hD9 s79
      obtain ⟨⟨dxA, hpA⟩, _⟩ := id hcA
      refine ⟨_, rfl, r, dxA, _, rfl, hpA, rfl, _, rfl, _, rfl, wl, _, -1, _, rfl, rfl, SqL.of hwA, hzI, r, e, t, [wz], rfl, hcA, by omega, by show 1 ≤ 400; decide, (fun z hz => by rw [List.mem_singleton.mp hz]; exact hwz), hbn, fun cw H11 hcw s11 => ?_⟩
      obtain rfl := colW_one (by simp) hcw
      have MB := MA.same s11
      refine ⟨_, rfl, _, rfl, wl, _, -1, _, rfl, rfl, SqL.of (s11 _ _ hwA), hzI, _, rfl, _, rfl, .inl ⟨_, .inl MB.dc⟩, _, rfl, _, rfl, wl, _, -1, _, rfl, rfl, SqL.of (s11 _ _ hwA), hzI, _, DGet.k (k := Sum.inr wz) MB.dc, ?_⟩
      rw [tv_val, val_getD]
      refine ⟨_, _, rfl, hwz, by rw [← hvu]; exact hbn _, fun H12 s12 => ?_⟩
      rw [← hvu]
      refine ⟨rfl, _, rfl, iteF' (neS' (colS_one _ _)) ?_⟩
      have hcC := (hcA.same s11).same s12
      have MC := MB.same s12
      have hwC := s12 _ _ (s11 _ _ hwA)
      clear hcA MA hwA MB hpA
      -- told
      refine ⟨_, rfl, m, u, rfl, MC, by omega, fun tl H13 xl l2 htl s13 h13 hP13 ht2 hwl2 hle2 => ?_⟩
      have htt : Told (val t) l2 := by
        have : val t = val u := funext hvu
        rw [this]
        exact ht2
      have hcD := hcC.same s13
      have MD := MC.same s13
      obtain ⟨⟨dxD, hpD⟩, _⟩ := id hcD
      have hl8 : l2.length ≤ 8 := by omega
      have hkW : ∀ z ∈ keys l2, Word z := fun z hz => by
        obtain ⟨q9, hm9, rfl⟩ := List.mem_map.mp hz
        exact hwl2 q9 hm9
      -- columns of all
      refine ⟨_, rfl, r, dxD, _, rfl, hpD, rfl, r, e, t, [], rfl, hcD, by omega, by show 0 ≤ 400; decide, (fun _ h => nomatch h), hbn, fun cw H14 hcw s14 => ?_⟩
      obtain rfl := colW_nil htt hcw
      have hP14 : PrL H14 xl l2 := hP13.mono fun _ _ _ e => s14 _ _ e
      have h14 := s14 _ _ h13
      have hbq : ∀ q9 ∈ l2, BN 200 q9.2 := fun q9 hm9 => by
        rw [((htt.mem q9.1 q9.2).mp hm9).1]
        exact hbn _
      refine ⟨⟨_, rfl⟩, _, rfl, tl, rfl, ⟨_, SqL.of h14⟩, fun D2 hD2 => ?_⟩
      refine lc_it (walk_list (xs := xl)) (fun i H' => Same H14 H' ∧ H' D2 = some (.lst ((l2.take i).map fun q9 => V.str (colL q9.1 q9.2)))) ⟨Same.new hD2, upd_same⟩ (fun i H' _ h => SqL.of (h.1 _ _ h14)) ?_ ?_
      · rintro i x H' H2' hi ⟨s', hD'⟩ ⟨rfl, hx⟩
        have hi2 : i < l2.length := by rw [← hP14.length]; exact hi
        obtain ⟨t9, et, ht9⟩ := hP14.at (List.getElem?_eq_getElem hi2)
        rw [et] at hx
        obtain rfl := Option.some.inj hx
        have hm9 : l2[i] ∈ l2 := List.getElem_mem hi2
        refine ⟨rfl, yes_it ⟨_, rfl, t9, _, 0, _, rfl, rfl, SqT.of (s' _ _ ht9), rfl, _, rfl, t9, _, 1, _, rfl, rfl, SqT.of (s' _ _ ht9), rfl, _, _, rfl, hwl2 _ hm9, hbq _ hm9, fun H3' s3' => ⟨_, s3' _ _ hD', ?_, fun b o e1 => ?_, ?_⟩⟩⟩
        · rw [List.length_map, List.length_take]
          exact Nat.lt_of_le_of_lt (show min i l2.length ≤ 400 by omega) (by decide)
        · rw [upd_ne (ne_of_none e1 hD2)]
          exact s3' _ _ (s' _ _ e1)
        · rw [upd_same, List.take_succ, List.getElem?_eq_getElem hi2, List.map_append]
          rfl
      rintro H15 ⟨s15, hD15⟩
      rw [hP14.length, List.take_length, told_cols htt] at hD15
      have hsumk := colS_len hkW hbn (by unfold keys; rw [List.length_map]; omega)
      have hkl : (keys l2).length ≤ 8 := by unfold keys; rw [List.length_map]; omega
      refine ⟨_, D2, (keys l2).map fun z => colL z (val t z), rfl, rfl, .inl (SqL.of hD15), by rw [List.length_map, e1]; omega, ?_⟩
      refine ⟨rfl, _, rfl, iteF' (neS _) ?_⟩
      -- the texts of the pairs
      have s1315 := s14.trans s15
      have hP15 : PrL H15 xl l2 := hP14.mono fun _ _ _ e => s15 _ _ e
      have h15 := s15 _ _ h14
      have hcE := hcD.same s1315
      have ME := MD.same s1315
      clear hcD MD hpD hP14 h14 hP13 h13 s1315 hD15 hD2
      refine ⟨⟨_, rfl⟩, _, rfl, tl, rfl, ⟨_, SqL.of h15⟩, fun D3 hD3 => ?_⟩
      refine lc_it (walk_list (xs := xl)) (fun i H' => Same H15 H' ∧ H' D3 = some (.lst ((l2.take i).map fun q9 => V.str (part q9)))) ⟨Same.new hD3, upd_same⟩ (fun i H' _ h => SqL.of (h.1 _ _ h15)) ?_ ?_
      · rintro i x H' H2' hi ⟨s', hD'⟩ ⟨rfl, hx⟩
        have hi2 : i < l2.length := by rw [← hP15.length]; exact hi
        obtain ⟨t9, et, ht9⟩ := hP15.at (List.getElem?_eq_getElem hi2)
        rw [et] at hx
        obtain rfl := Option.some.inj hx
        have hm9 : l2[i] ∈ l2 := List.getElem_mem hi2
        have hpl := part_len (hwl2 _ hm9) (hbq _ hm9)
        have hpe : (part l2[i]).length = l2[i].1.length + 1 + (nt l2[i].2).length := by
          unfold part
          rw [strLen_append, strLen_append]
          rfl
        have big : 10000 ≤ sizeLine := by decide
        refine ⟨rfl, yes_it ⟨_, rfl, t9, _, 0, _, rfl, rfl, SqT.of (s' _ _ ht9), rfl, _, _, rfl, rfl, ?_, _, rfl, t9, _, 1, _, rfl, rfl, SqT.of (s' _ _ ht9), rfl, _, rfl, Nat.lt_of_le_of_lt (hbq _ hm9).log (by decide), _, _, rfl, rfl, ?_, ?_⟩⟩
        · show l2[i].1.length + 1 ≤ _
          omega
        · rw [strLen_append]
          show l2[i].1.length + 1 + (nt l2[i].2).length ≤ _
          omega
        · refine ⟨_, hD', ?_, fun b o e1 => ?_, ?_⟩
          · rw [List.length_map, List.length_take]
            exact Nat.lt_of_le_of_lt (show min i l2.length ≤ 400 by omega) (by decide)
          · rw [upd_ne (ne_of_none e1 hD3)]
            exact s' _ _ e1
          · rw [upd_same, List.take_succ, List.getElem?_eq_getElem hi2, List.map_append]
            rfl
      rintro H16 ⟨s16, hD16⟩
      rw [hP15.length, List.take_length] at hD16
      have hparts : ((l2.map part).map (·.length)).sum ≤ 8 * 1930 := by
        have h := sum_le (B := 1930) (ts := l2.map part) fun y my => by
          obtain ⟨q9, hm9, e⟩ := List.mem_map.mp my
          rw [← e]
          exact part_len (hwl2 _ hm9) (hbq _ hm9)
        rw [List.length_map] at h
        omega
      have e2 : ((", " : String) : Str).length = 2 := rfl
      refine ⟨_, D3, l2.map part, rfl, rfl, .inl (SqL.of (by rw [hD16, List.map_map]; rfl)), by rw [List.length_map, e2]; omega, ?_⟩
      have hcF := hcE.same s16
      have MF := ME.same s16
      clear hcE ME hP15 h15 hD16 hD3
      -- repr
      obtain ⟨⟨dxF, hpF⟩, _⟩ := id hcF
      have hlk := (l2.map part)
      have hjl : (Txt.join ", " (l2.map part)).length ≤ 16000 := by
        have hj := join_len ", " (l2.map part)
        rw [e2, List.length_map] at hj
        rw [TL.join_eq]
        omega
      have big : 100000 ≤ sizeLine := by decide
      have e7 : (("Counts(" : String) : Str).length = 7 := rfl
      have e8 : ((")" : String) : Str).length = 1 := rfl
      refine ⟨_, rfl, r, dxF, _, rfl, hpF, r, e, t, rfl, hcF, by omega, hbn, fun l3 H17 ht3 s17 => ⟨_, rfl, ?_⟩⟩
      obtain rfl : l3 = l2 := told_eq ht3 htt fun _ => rfl
      refine ⟨_, rfl, _, _, rfl, rfl, by rw [e7]; omega, _, _, rfl, rfl, by rw [strLen_append, e7, e8]; omega, rfl, _, rfl, iteF' (neS' rfl) ?_⟩
      have hcG := hcF.same s17
      have MG := MF.same s17
      clear hcF MF hpF
      -- repr of none
      intro x5 dx5 nx5 ndx5 nex5
      have sMk := made (C := C) nx5 ndx5
      refine ⟨x5, dx5, [], [], rfl, upd_same, .nil, by show 0 ≤ 1000; decide, (fun _ h => nomatch h), fun d5 H18 hd5' hC5 kp5 => ⟨rfl, ?_⟩⟩
      have s18 : Same H17 H18 := fun b o e1 => kp5 b o (sMk _ _ e1) (ne_of_none e1 nx5)
      have hC5 : Cnt C H18 x5 d5 [] := hC5
      obtain ⟨⟨dx5', hp5'⟩, _⟩ := id hC5
      have bn0 : ∀ z, BN 200 (val ([] : Tab) z) := fun z => by show BN 200 0; unfold BN; decide
      refine ⟨x5, dx5', _, rfl, hp5', x5, d5, [], rfl, hC5, by show 0 ≤ 400; decide, bn0, fun l4 H19 ht4 s19 => ⟨_, rfl, ?_⟩⟩
      obtain rfl : l4 = [] := told_eq ht4 told_nil fun _ => rfl
      refine ⟨rfl, _, rfl, iteF' (neS' (by decide +kernel)) ?_⟩
      have s1719 := s18.trans s19
      have hcH := hcG.same s1719
      have MH := MG.same s1719
      clear hcG MG sMk hC5 hp5' kp5 nx5 ndx5 nex5
      -- columns of none
      intro x6' dx6 nx6 ndx6 nex6
      have sMk := made (C := C) nx6 ndx6
      refine ⟨x6', dx6, [], [], rfl, upd_same, .nil, by show 0 ≤ 1000; decide, (fun _ h => nomatch h), fun d6 H20 hd6' hC6 kp6 => ⟨rfl, ?_⟩⟩
      have s20 : Same H19 H20 := fun b o e1 => kp6 b o (sMk _ _ e1) (ne_of_none e1 nx6)
      have hC6 : Cnt C H20 x6' d6 [] := hC6
      obtain ⟨⟨dx6', hp6'⟩, _⟩ := id hC6
      refine ⟨x6', dx6', _, rfl, hp6', rfl, x6', d6, [], [], rfl, hC6, by show 0 ≤ 400; decide, by show 0 ≤ 400; decide, (fun _ h => nomatch h), bn0, fun cw H21 hcw s21 => ?_⟩
      obtain rfl := colW_nil told_nil hcw
      refine ⟨rfl, _, rfl, iteF' (neS' (by decide +kernel)) ?_⟩
      have s1921 := s20.trans s21
      have hcI := hcH.same s1921
      have MI := MH.same s1921
      clear hcH MH sMk hC6 hp6' kp6 nx6 ndx6 nex6
      -- one column of none
      intro x8 dx8 nx8 ndx8 nex8
      have sMk := made (C := C) nx8 ndx8
      refine ⟨x8, dx8, [], [], rfl, upd_same, .nil, by show 0 ≤ 1000; decide, (fun _ h => nomatch h), fun d8 H22 hd8' hC8 kp8 => ⟨rfl, ?_⟩⟩
      have s22 : Same H21 H22 := fun b o e1 => kp8 b o (sMk _ _ e1) (ne_of_none e1 nx8)
      have hC8 : Cnt C H22 x8 d8 [] := hC8
      obtain ⟨⟨dx8', hp8'⟩, _⟩ := id hC8
      refine ⟨x8, dx8', _, rfl, hp8', rfl, x8, d8, [], ["main"], rfl, hC8, by show 0 ≤ 400; decide, by show 1 ≤ 400; decide, (fun z hz => by rw [List.mem_singleton.mp hz]; exact wMain), bn0, fun cw H23 hcw s23 => ?_⟩
      obtain rfl := colW_one (by simp) hcw
      refine ⟨_, 11, rfl, rfl, by decide, by decide, by decide, by decide, by decide +kernel, _, _, rfl, rfl, by decide +kernel, _, _, rfl, rfl, by decide +kernel, rfl, _, rfl, iteF' (neS' (by decide +kernel)) ?_⟩
      have s2123 := s22.trans s23
      refine ⟨_, rfl, _, rfl, r, e, m, t, u, rfl, hcI.same s2123, by omega, MI.same s2123, by omega, hvu, fun H24 s24 => ?_⟩
      exact k _
end
end Cs

set_option Elab.async false
set_option linter.all false
set_option maxRecDepth 100000
set_option maxHeartbeats 8000000
namespace Cs
open PySem L2
theorem all_mk {l : PySem.W.OpenLaw} {w : World} {K : PySem.W.Frag} {h : Heap} {mg : Str → Option Value} {fa : Addr} (X : K.In h) (G : h.Ns mainGlobals mg) (hfa : mg "law" = some (.ref fa))
    {f_isint : Addr} {oc_isint kV_isint dc_isint pm_isint cd_isint ct_isint : Value} {od_isint an_isint : Option Addr} {sl_isint : Array (Option Value)}
    {f_isword : Addr} {oc_isword kV_isword dc_isword pm_isword cd_isword ct_isword : Value} {od_isword an_isword : Option Addr} {sl_isword : Array (Option Value)}
    {f_issmall : Addr} {oc_issmall kV_issmall dc_issmall pm_issmall cd_issmall ct_issmall : Value} {od_issmall an_issmall : Option Addr} {sl_issmall : Array (Option Value)}
    {f_ispair : Addr} {oc_ispair kV_ispair dc_ispair pm_ispair cd_ispair ct_ispair : Value} {od_ispair an_ispair : Option Addr} {sl_ispair : Array (Option Value)}
    {f_distinct : Addr} {oc_distinct kV_distinct dc_distinct pm_distinct cd_distinct ct_distinct : Value} {od_distinct an_distinct : Option Addr} {sl_distinct : Array (Option Value)}
    {f_source : Addr} {oc_source kV_source dc_source pm_source cd_source ct_source : Value} {od_source an_source : Option Addr} {sl_source : Array (Option Value)}
    {f_mixed : Addr} {oc_mixed kV_mixed dc_mixed pm_mixed cd_mixed ct_mixed : Value} {od_mixed an_mixed : Option Addr} {sl_mixed : Array (Option Value)}
    {f_draw : Addr} {oc_draw kV_draw dc_draw pm_draw cd_draw ct_draw : Value} {od_draw an_draw : Option Addr} {sl_draw : Array (Option Value)}
    {f_word : Addr} {oc_word kV_word dc_word pm_word cd_word ct_word : Value} {od_word an_word : Option Addr} {sl_word : Array (Option Value)}
    {f_number : Addr} {oc_number kV_number dc_number pm_number cd_number ct_number : Value} {od_number an_number : Option Addr} {sl_number : Array (Option Value)}
    {f_pairs : Addr} {oc_pairs kV_pairs dc_pairs pm_pairs cd_pairs ct_pairs : Value} {od_pairs an_pairs : Option Addr} {sl_pairs : Array (Option Value)}
    {f_model : Addr} {oc_model kV_model dc_model pm_model cd_model ct_model : Value} {od_model an_model : Option Addr} {sl_model : Array (Option Value)}
    {f_told : Addr} {oc_told kV_told dc_told pm_told cd_told ct_told : Value} {od_told an_told : Option Addr} {sl_told : Array (Option Value)}
    {f_lint : Addr} {oc_lint kV_lint dc_lint pm_lint cd_lint ct_lint : Value} {od_lint an_lint : Option Addr} {sl_lint : Array (Option Value)}
    {f_equal : Addr} {oc_equal kV_equal dc_equal pm_equal cd_equal ct_equal : Value} {od_equal an_equal : Option Addr} {sl_equal : Array (Option Value)}
    {f_commas : Addr} {oc_commas kV_commas dc_commas pm_commas cd_commas ct_commas : Value} {od_commas an_commas : Option Addr} {sl_commas : Array (Option Value)}
    {f_line : Addr} {oc_line kV_line dc_line pm_line cd_line ct_line : Value} {od_line an_line : Option Addr} {sl_line : Array (Option Value)}
    {f_law : Addr} {oc_law kV_law dc_law pm_law cd_law ct_law : Value} {od_law an_law : Option Addr} {sl_law : Array (Option Value)}
    {C : Addr}
    {f_init : Addr} {oc_init kV_init dc_init pm_init cd_init ct_init : Value} {od_init an_init : Option Addr} {sl_init : Array (Option Value)}
    {f_mwords : Addr} {oc_mwords kV_mwords dc_mwords pm_mwords cd_mwords ct_mwords : Value} {od_mwords an_mwords : Option Addr} {sl_mwords : Array (Option Value)}
    {f_mpairs : Addr} {oc_mpairs kV_mpairs dc_mpairs pm_mpairs cd_mpairs ct_mpairs : Value} {od_mpairs an_mpairs : Option Addr} {sl_mpairs : Array (Option Value)}
    {f_mget : Addr} {oc_mget kV_mget dc_mget pm_mget cd_mget ct_mget : Value} {od_mget an_mget : Option Addr} {sl_mget : Array (Option Value)}
    {f_mrepr : Addr} {oc_mrepr kV_mrepr dc_mrepr pm_mrepr cd_mrepr ct_mrepr : Value} {od_mrepr an_mrepr : Option Addr} {sl_mrepr : Array (Option Value)}
    {f_mcols : Addr} {oc_mcols kV_mcols dc_mcols pm_mcols cd_mcols ct_mcols : Value} {od_mcols an_mcols : Option Addr} {sl_mcols : Array (Option Value)}
    {q_mof : Addr} {r_mof : List Value}
    {f_mof : Addr} {oc_mof kV_mof dc_mof pm_mof cd_mof ct_mof : Value} {od_mof an_mof : Option Addr} {sl_mof : Array (Option Value)}
    {tk_LET : Tok}
    
    (a_isint : PySem.W.nsIn K mainGlobals "is_integer" = some (some (.ref f_isint)))
    (l_isint : K.lookup f_isint = some ⟨oc_isint, od_isint, .func (PySem.W.fnOf "is_integer" "is_integer" (defArgs s_is_integer) (defBody s_is_integer) (defScope s_is_integer) .none kV_isint dc_isint pm_isint an_isint cd_isint ct_isint), sl_isint⟩)
    (c_isint : PySem.W.codeIn K cd_isint "is_integer" = true)
    (k_isint : PySem.W.keepIn K (.ref f_isint) = true)
    (a_isword : PySem.W.nsIn K mainGlobals "is_word" = some (some (.ref f_isword)))
    (l_isword : K.lookup f_isword = some ⟨oc_isword, od_isword, .func (PySem.W.fnOf "is_word" "is_word" (defArgs s_is_word) (defBody s_is_word) (defScope s_is_word) .none kV_isword dc_isword pm_isword an_isword cd_isword ct_isword), sl_isword⟩)
    (c_isword : PySem.W.codeIn K cd_isword "is_word" = true)
    (k_isword : PySem.W.keepIn K (.ref f_isword) = true)
    (a_issmall : PySem.W.nsIn K mainGlobals "is_small" = some (some (.ref f_issmall)))
    (l_issmall : K.lookup f_issmall = some ⟨oc_issmall, od_issmall, .func (PySem.W.fnOf "is_small" "is_small" (defArgs s_is_small) (defBody s_is_small) (defScope s_is_small) .none kV_issmall dc_issmall pm_issmall an_issmall cd_issmall ct_issmall), sl_issmall⟩)
    (c_issmall : PySem.W.codeIn K cd_issmall "is_small" = true)
    (k_issmall : PySem.W.keepIn K (.ref f_issmall) = true)
    (a_ispair : PySem.W.nsIn K mainGlobals "is_pair" = some (some (.ref f_ispair)))
    (l_ispair : K.lookup f_ispair = some ⟨oc_ispair, od_ispair, .func (PySem.W.fnOf "is_pair" "is_pair" (defArgs s_is_pair) (defBody s_is_pair) (defScope s_is_pair) .none kV_ispair dc_ispair pm_ispair an_ispair cd_ispair ct_ispair), sl_ispair⟩)
    (c_ispair : PySem.W.codeIn K cd_ispair "is_pair" = true)
    (k_ispair : PySem.W.keepIn K (.ref f_ispair) = true)
    (a_distinct : PySem.W.nsIn K mainGlobals "distinct" = some (some (.ref f_distinct)))
    (l_distinct : K.lookup f_distinct = some ⟨oc_distinct, od_distinct, .func (PySem.W.fnOf "distinct" "distinct" (defArgs s_distinct) (defBody s_distinct) (defScope s_distinct) .none kV_distinct dc_distinct pm_distinct an_distinct cd_distinct ct_distinct), sl_distinct⟩)
    (c_distinct : PySem.W.codeIn K cd_distinct "distinct" = true)
    (k_distinct : PySem.W.keepIn K (.ref f_distinct) = true)
    (a_source : PySem.W.nsIn K mainGlobals "_law_source" = some (some (.ref f_source)))
    (l_source : K.lookup f_source = some ⟨oc_source, od_source, .func (PySem.W.fnOf "_law_source" "_law_source" (defArgs s_l_source) (defBody s_l_source) (defScope s_l_source) .none kV_source dc_source pm_source an_source cd_source ct_source), sl_source⟩)
    (c_source : PySem.W.codeIn K cd_source "_law_source" = true)
    (k_source : PySem.W.keepIn K (.ref f_source) = true)
    (a_mixed : PySem.W.nsIn K mainGlobals "_law_mixed" = some (some (.ref f_mixed)))
    (l_mixed : K.lookup f_mixed = some ⟨oc_mixed, od_mixed, .func (PySem.W.fnOf "_law_mixed" "_law_mixed" (defArgs s_l_mixed) (defBody s_l_mixed) (defScope s_l_mixed) .none kV_mixed dc_mixed pm_mixed an_mixed cd_mixed ct_mixed), sl_mixed⟩)
    (c_mixed : PySem.W.codeIn K cd_mixed "_law_mixed" = true)
    (k_mixed : PySem.W.keepIn K (.ref f_mixed) = true)
    (a_draw : PySem.W.nsIn K mainGlobals "_law_draw" = some (some (.ref f_draw)))
    (l_draw : K.lookup f_draw = some ⟨oc_draw, od_draw, .func (PySem.W.fnOf "_law_draw" "_law_draw" (defArgs s_l_draw) (defBody s_l_draw) (defScope s_l_draw) .none kV_draw dc_draw pm_draw an_draw cd_draw ct_draw), sl_draw⟩)
    (c_draw : PySem.W.codeIn K cd_draw "_law_draw" = true)
    (k_draw : PySem.W.keepIn K (.ref f_draw) = true)
    (a_word : PySem.W.nsIn K mainGlobals "_law_word" = some (some (.ref f_word)))
    (l_word : K.lookup f_word = some ⟨oc_word, od_word, .func (PySem.W.fnOf "_law_word" "_law_word" (defArgs s_l_word) (defBody s_l_word) (defScope s_l_word) .none kV_word dc_word pm_word an_word cd_word ct_word), sl_word⟩)
    (c_word : PySem.W.codeIn K cd_word "_law_word" = true)
    (k_word : PySem.W.keepIn K (.ref f_word) = true)
    (a_number : PySem.W.nsIn K mainGlobals "_law_number" = some (some (.ref f_number)))
    (l_number : K.lookup f_number = some ⟨oc_number, od_number, .func (PySem.W.fnOf "_law_number" "_law_number" (defArgs s_l_number) (defBody s_l_number) (defScope s_l_number) .none kV_number dc_number pm_number an_number cd_number ct_number), sl_number⟩)
    (c_number : PySem.W.codeIn K cd_number "_law_number" = true)
    (k_number : PySem.W.keepIn K (.ref f_number) = true)
    (a_pairs : PySem.W.nsIn K mainGlobals "_law_pairs" = some (some (.ref f_pairs)))
    (l_pairs : K.lookup f_pairs = some ⟨oc_pairs, od_pairs, .func (PySem.W.fnOf "_law_pairs" "_law_pairs" (defArgs s_l_pairs) (defBody s_l_pairs) (defScope s_l_pairs) .none kV_pairs dc_pairs pm_pairs an_pairs cd_pairs ct_pairs), sl_pairs⟩)
    (c_pairs : PySem.W.codeIn K cd_pairs "_law_pairs" = true)
    (k_pairs : PySem.W.keepIn K (.ref f_pairs) = true)
    (a_model : PySem.W.nsIn K mainGlobals "_law_model" = some (some (.ref f_model)))
    (l_model : K.lookup f_model = some ⟨oc_model, od_model, .func (PySem.W.fnOf "_law_model" "_law_model" (defArgs s_l_model) (defBody s_l_model) (defScope s_l_model) .none kV_model dc_model pm_model an_model cd_model ct_model), sl_model⟩)
    (c_model : PySem.W.codeIn K cd_model "_law_model" = true)
    (k_model : PySem.W.keepIn K (.ref f_model) = true)
    (a_told : PySem.W.nsIn K mainGlobals "_law_told" = some (some (.ref f_told)))
    (l_told : K.lookup f_told = some ⟨oc_told, od_told, .func (PySem.W.fnOf "_law_told" "_law_told" (defArgs s_l_told) (defBody s_l_told) (defScope s_l_told) .none kV_told dc_told pm_told an_told cd_told ct_told), sl_told⟩)
    (c_told : PySem.W.codeIn K cd_told "_law_told" = true)
    (k_told : PySem.W.keepIn K (.ref f_told) = true)
    (a_lint : PySem.W.nsIn K mainGlobals "_law_is_integer" = some (some (.ref f_lint)))
    (l_lint : K.lookup f_lint = some ⟨oc_lint, od_lint, .func (PySem.W.fnOf "_law_is_integer" "_law_is_integer" (defArgs s_l_is_integer) (defBody s_l_is_integer) (defScope s_l_is_integer) .none kV_lint dc_lint pm_lint an_lint cd_lint ct_lint), sl_lint⟩)
    (c_lint : PySem.W.codeIn K cd_lint "_law_is_integer" = true)
    (k_lint : PySem.W.keepIn K (.ref f_lint) = true)
    (a_equal : PySem.W.nsIn K mainGlobals "_law_equal" = some (some (.ref f_equal)))
    (l_equal : K.lookup f_equal = some ⟨oc_equal, od_equal, .func (PySem.W.fnOf "_law_equal" "_law_equal" (defArgs s_l_equal) (defBody s_l_equal) (defScope s_l_equal) .none kV_equal dc_equal pm_equal an_equal cd_equal ct_equal), sl_equal⟩)
    (c_equal : PySem.W.codeIn K cd_equal "_law_equal" = true)
    (k_equal : PySem.W.keepIn K (.ref f_equal) = true)
    (a_commas : PySem.W.nsIn K mainGlobals "_law_commas" = some (some (.ref f_commas)))
    (l_commas : K.lookup f_commas = some ⟨oc_commas, od_commas, .func (PySem.W.fnOf "_law_commas" "_law_commas" (defArgs s_l_commas) (defBody s_l_commas) (defScope s_l_commas) .none kV_commas dc_commas pm_commas an_commas cd_commas ct_commas), sl_commas⟩)
    (c_commas : PySem.W.codeIn K cd_commas "_law_commas" = true)
    (k_commas : PySem.W.keepIn K (.ref f_commas) = true)
    (a_line : PySem.W.nsIn K mainGlobals "_law_line" = some (some (.ref f_line)))
    (l_line : K.lookup f_line = some ⟨oc_line, od_line, .func (PySem.W.fnOf "_law_line" "_law_line" (defArgs s_l_line) (defBody s_l_line) (defScope s_l_line) .none kV_line dc_line pm_line an_line cd_line ct_line), sl_line⟩)
    (c_line : PySem.W.codeIn K cd_line "_law_line" = true)
    (k_line : PySem.W.keepIn K (.ref f_line) = true)
    (a_law : PySem.W.nsIn K mainGlobals "law" = some (some (.ref f_law)))
    (l_law : K.lookup f_law = some ⟨oc_law, od_law, .func (PySem.W.fnOf "law" "law" (defArgs s_law) (defBody s_law) (defScope s_law) .none kV_law dc_law pm_law an_law cd_law ct_law), sl_law⟩)
    (c_law : PySem.W.codeIn K cd_law "law" = true)
    (k_law : PySem.W.keepIn K (.ref f_law) = true)
    (a_C : PySem.W.nsIn K mainGlobals "Counts" = some (some (.ref C)))
    (pg_C : PySem.W.plainGet K C Str.empty = true)
    (hd_C : PySem.W.hasDictIn K C = true)
    (po_C : PySem.W.plainOver K C = true)
    (sa_C : PySem.W.findIn K (.ref C) "__setattr__" = some (some (.builtin "object.__setattr__")))
    (mk_C : PySem.W.makesIn K C = true)
    (kc_C : PySem.W.keepIn K (.ref C) = true)
    (ns_C : PySem.W.noSeq K C = true)
    (n_C_held : PySem.W.findIn K (.ref C) "held" = some none)
    (a_init : PySem.W.findIn K (.ref C) "__init__" = some (some (.ref f_init)))
    (i_init : PySem.W.isFn K (.ref f_init) = true)
    (l_init : K.lookup f_init = some ⟨oc_init, od_init, .func (PySem.W.fnOf "__init__" "Counts.__init__" (defArgs s_Counts_init) (defBody s_Counts_init) (defScope s_Counts_init) .none kV_init dc_init pm_init an_init cd_init ct_init), sl_init⟩)
    (c_init : PySem.W.codeIn K cd_init "Counts.__init__" = true)
    (k_init : PySem.W.keepIn K (.ref f_init) = true)
    (a_mwords : PySem.W.findIn K (.ref C) "words" = some (some (.ref f_mwords)))
    (i_mwords : PySem.W.isFn K (.ref f_mwords) = true)
    (l_mwords : K.lookup f_mwords = some ⟨oc_mwords, od_mwords, .func (PySem.W.fnOf "words" "Counts.words" (defArgs s_Counts_words) (defBody s_Counts_words) (defScope s_Counts_words) .none kV_mwords dc_mwords pm_mwords an_mwords cd_mwords ct_mwords), sl_mwords⟩)
    (c_mwords : PySem.W.codeIn K cd_mwords "Counts.words" = true)
    (k_mwords : PySem.W.keepIn K (.ref f_mwords) = true)
    (a_mpairs : PySem.W.findIn K (.ref C) "pairs" = some (some (.ref f_mpairs)))
    (i_mpairs : PySem.W.isFn K (.ref f_mpairs) = true)
    (l_mpairs : K.lookup f_mpairs = some ⟨oc_mpairs, od_mpairs, .func (PySem.W.fnOf "pairs" "Counts.pairs" (defArgs s_Counts_pairs) (defBody s_Counts_pairs) (defScope s_Counts_pairs) .none kV_mpairs dc_mpairs pm_mpairs an_mpairs cd_mpairs ct_mpairs), sl_mpairs⟩)
    (c_mpairs : PySem.W.codeIn K cd_mpairs "Counts.pairs" = true)
    (k_mpairs : PySem.W.keepIn K (.ref f_mpairs) = true)
    (a_mget : PySem.W.findIn K (.ref C) "__getitem__" = some (some (.ref f_mget)))
    (i_mget : PySem.W.isFn K (.ref f_mget) = true)
    (l_mget : K.lookup f_mget = some ⟨oc_mget, od_mget, .func (PySem.W.fnOf "__getitem__" "Counts.__getitem__" (defArgs s_Counts_getitem) (defBody s_Counts_getitem) (defScope s_Counts_getitem) .none kV_mget dc_mget pm_mget an_mget cd_mget ct_mget), sl_mget⟩)
    (c_mget : PySem.W.codeIn K cd_mget "Counts.__getitem__" = true)
    (k_mget : PySem.W.keepIn K (.ref f_mget) = true)
    (a_mrepr : PySem.W.findIn K (.ref C) "__repr__" = some (some (.ref f_mrepr)))
    (i_mrepr : PySem.W.isFn K (.ref f_mrepr) = true)
    (l_mrepr : K.lookup f_mrepr = some ⟨oc_mrepr, od_mrepr, .func (PySem.W.fnOf "__repr__" "Counts.__repr__" (defArgs s_Counts_repr) (defBody s_Counts_repr) (defScope s_Counts_repr) .none kV_mrepr dc_mrepr pm_mrepr an_mrepr cd_mrepr ct_mrepr), sl_mrepr⟩)
    (c_mrepr : PySem.W.codeIn K cd_mrepr "Counts.__repr__" = true)
    (k_mrepr : PySem.W.keepIn K (.ref f_mrepr) = true)
    (a_mcols : PySem.W.findIn K (.ref C) "columns" = some (some (.ref f_mcols)))
    (i_mcols : PySem.W.isFn K (.ref f_mcols) = true)
    (l_mcols : K.lookup f_mcols = some ⟨oc_mcols, od_mcols, .func (PySem.W.fnOf "columns" "Counts.columns" (defArgs s_Counts_columns) (defBody s_Counts_columns) (defScope s_Counts_columns) .none kV_mcols dc_mcols pm_mcols an_mcols cd_mcols ct_mcols), sl_mcols⟩)
    (c_mcols : PySem.W.codeIn K cd_mcols "Counts.columns" = true)
    (k_mcols : PySem.W.keepIn K (.ref f_mcols) = true)
    (a_mof : PySem.W.findCls K (.ref C) (.type "type") "of" = some (.get (.builtin "classmethod.__get__") (.ref q_mof) .none (.ref C)))
    (rc_mof : PySem.W.recIn K q_mof "classmethod" = some (.ref f_mof :: r_mof))
    (l_mof : K.lookup f_mof = some ⟨oc_mof, od_mof, .func (PySem.W.fnOf "of" "Counts.of" (defArgs s_Counts_of) (defBody s_Counts_of) (defScope s_Counts_of) .none kV_mof dc_mof pm_mof an_mof cd_mof ct_mof), sl_mof⟩)
    (c_mof : PySem.W.codeIn K cd_mof "Counts.of" = true)
    (fi_mof : PySem.W.fnIn K f_mof = true)
    (k_mof : PySem.W.keepIn K (.ref f_mof) = true)
    (rd_C : PySem.W.readsIn K C (.type "type") = true)
    (ga_C : PySem.W.specialIn K (.ref C) "__getattribute__" = some (some (.builtin "type.__getattribute__")))
    (a_LET : PySem.W.nsIn K mainGlobals "LETTERS" = some (some (.str LET tk_LET)))
    (fi_mget : PySem.W.fnIn K f_mget = true)
    (z_len : PySem.W.nsIn K mainGlobals "len" = some none)
    (z_int : PySem.W.nsIn K mainGlobals "int" = some none)
    (z_abs : PySem.W.nsIn K mainGlobals "abs" = some none)
    (z_list : PySem.W.nsIn K mainGlobals "list" = some none)
    (z_range : PySem.W.nsIn K mainGlobals "range" = some none)
    (z_sorted : PySem.W.nsIn K mainGlobals "sorted" = some none)
    (z_str : PySem.W.nsIn K mainGlobals "str" = some none)
    (z_isinstance : PySem.W.nsIn K mainGlobals "isinstance" = some none)
    (z_sum : PySem.W.nsIn K mainGlobals "sum" = some none)
    (z_tuple : PySem.W.nsIn K mainGlobals "tuple" = some none)
    (z_dict : PySem.W.nsIn K mainGlobals "dict" = some none)
    (z_all : PySem.W.nsIn K mainGlobals "all" = some none)
    (z_bool : PySem.W.nsIn K mainGlobals "bool" = some none)
    (z_enumerate : PySem.W.nsIn K mainGlobals "enumerate" = some none)
    (z_min : PySem.W.nsIn K mainGlobals "min" = some none)
    (z_max : PySem.W.nsIn K mainGlobals "max" = some none)
    (z_repr : PySem.W.nsIn K mainGlobals "repr" = some none)
    : ∃ fd : FuncData, (∀ (s : Shared) (v : Value), BindsTo s fd ⟨[v], []⟩ [("_law_script", v)]) ∧ ∀ base : Heap, K.In base → base.Ns mainGlobals mg → FnOk l.prog w K mg base CX0 6 fa fd ["_law_script"] (spLaw K) := by
  have e := hfa.symm.trans (PySem.W.mg_of X G a_law)
  cases e
  have g : Bi mg := ⟨PySem.W.mg_none_of X G z_len, PySem.W.mg_none_of X G z_int, PySem.W.mg_none_of X G z_abs, PySem.W.mg_none_of X G z_list, PySem.W.mg_none_of X G z_range, PySem.W.mg_none_of X G z_sorted, PySem.W.mg_none_of X G z_str, PySem.W.mg_none_of X G z_isinstance, PySem.W.mg_none_of X G z_sum, PySem.W.mg_none_of X G z_tuple, PySem.W.mg_none_of X G z_dict, PySem.W.mg_none_of X G z_all, PySem.W.mg_none_of X G z_bool, PySem.W.mg_none_of X G z_enumerate⟩
  have F_isint := fun_mk (st := s_is_integer) l_isint c_isint k_isint
  have b_isint := F_isint.binds (ps := ["thing"]) fun _ _ _ _ _ _ us hl => match us, hl with | [_], _ => rfl
  have F_isword := fun_mk (st := s_is_word) l_isword c_isword k_isword
  have b_isword := F_isword.binds (ps := ["thing"]) fun _ _ _ _ _ _ us hl => match us, hl with | [_], _ => rfl
  have F_issmall := fun_mk (st := s_is_small) l_issmall c_issmall k_issmall
  have b_issmall := F_issmall.binds (ps := ["thing"]) fun _ _ _ _ _ _ us hl => match us, hl with | [_], _ => rfl
  have F_ispair := fun_mk (st := s_is_pair) l_ispair c_ispair k_ispair
  have b_ispair := F_ispair.binds (ps := ["thing"]) fun _ _ _ _ _ _ us hl => match us, hl with | [_], _ => rfl
  have F_distinct := fun_mk (st := s_distinct) l_distinct c_distinct k_distinct
  have b_distinct := F_distinct.binds (ps := ["words"]) fun _ _ _ _ _ _ us hl => match us, hl with | [_], _ => rfl
  have F_source := fun_mk (st := s_l_source) l_source c_source k_source
  have b_source := F_source.binds (ps := ["_law_script"]) fun _ _ _ _ _ _ us hl => match us, hl with | [_], _ => rfl
  have F_mixed := fun_mk (st := s_l_mixed) l_mixed c_mixed k_mixed
  have b_mixed := F_mixed.binds (ps := ["_law_cell", "_law_count"]) fun _ _ _ _ _ _ us hl => match us, hl with | [_, _], _ => rfl
  have F_draw := fun_mk (st := s_l_draw) l_draw c_draw k_draw
  have b_draw := F_draw.binds (ps := ["_law_source_here", "_law_size"]) fun _ _ _ _ _ _ us hl => match us, hl with | [_, _], _ => rfl
  have F_word := fun_mk (st := s_l_word) l_word c_word k_word
  have b_word := F_word.binds (ps := ["_law_source_here"]) fun _ _ _ _ _ _ us hl => match us, hl with | [_], _ => rfl
  have F_number := fun_mk (st := s_l_number) l_number c_number k_number
  have b_number := F_number.binds (ps := ["_law_source_here"]) fun _ _ _ _ _ _ us hl => match us, hl with | [_], _ => rfl
  have F_pairs := fun_mk (st := s_l_pairs) l_pairs c_pairs k_pairs
  have b_pairs := F_pairs.binds (ps := ["_law_source_here", "_law_most"]) fun _ _ _ _ _ _ us hl => match us, hl with | [_, _], _ => rfl
  have F_model := fun_mk (st := s_l_model) l_model c_model k_model
  have b_model := F_model.binds (ps := ["_law_pairs_here"]) fun _ _ _ _ _ _ us hl => match us, hl with | [_], _ => rfl
  have F_told := fun_mk (st := s_l_told) l_told c_told k_told
  have b_told := F_told.binds (ps := ["_law_model_here"]) fun _ _ _ _ _ _ us hl => match us, hl with | [_], _ => rfl
  have F_lint := fun_mk (st := s_l_is_integer) l_lint c_lint k_lint
  have b_lint := F_lint.binds (ps := ["_law_thing"]) fun _ _ _ _ _ _ us hl => match us, hl with | [_], _ => rfl
  have F_equal := fun_mk (st := s_l_equal) l_equal c_equal k_equal
  have b_equal := F_equal.binds (ps := ["_law_counts", "_law_model_here"]) fun _ _ _ _ _ _ us hl => match us, hl with | [_, _], _ => rfl
  have F_commas := fun_mk (st := s_l_commas) l_commas c_commas k_commas
  have b_commas := F_commas.binds (ps := ["_law_number_here"]) fun _ _ _ _ _ _ us hl => match us, hl with | [_], _ => rfl
  have F_line := fun_mk (st := s_l_line) l_line c_line k_line
  have b_line := F_line.binds (ps := ["_law_word_here", "_law_number_here"]) fun _ _ _ _ _ _ us hl => match us, hl with | [_, _], _ => rfl
  have F_law := fun_mk (st := s_law) l_law c_law k_law
  have b_law := F_law.binds (ps := ["_law_script"]) fun _ _ _ _ _ _ us hl => match us, hl with | [_], _ => rfl
  have F_init := fun_mk (st := s_Counts_init) l_init c_init k_init
  have F_mwords := fun_mk (st := s_Counts_words) l_mwords c_mwords k_mwords
  have b_mwords := F_mwords.binds (ps := ["self"]) fun _ _ _ _ _ _ us hl => match us, hl with | [_], _ => rfl
  have F_mpairs := fun_mk (st := s_Counts_pairs) l_mpairs c_mpairs k_mpairs
  have b_mpairs := F_mpairs.binds (ps := ["self"]) fun _ _ _ _ _ _ us hl => match us, hl with | [_], _ => rfl
  have F_mget := fun_mk (st := s_Counts_getitem) l_mget c_mget k_mget
  have b_mget := F_mget.binds (ps := ["self", "word"]) fun _ _ _ _ _ _ us hl => match us, hl with | [_, _], _ => rfl
  have F_mrepr := fun_mk (st := s_Counts_repr) l_mrepr c_mrepr k_mrepr
  have b_mrepr := F_mrepr.binds (ps := ["self"]) fun _ _ _ _ _ _ us hl => match us, hl with | [_], _ => rfl
  have F_mcols := fun_mk (st := s_Counts_columns) l_mcols c_mcols k_mcols
  have F_mof := fun_mk (st := s_Counts_of) l_mof c_mof k_mof
  have b_mof := F_mof.binds (ps := ["cls", "pairs"]) fun _ _ _ _ _ _ us hl => match us, hl with | [_, _], _ => rfl
  refine ⟨PySem.W.fnOf "law" "law" (defArgs s_law) (defBody s_law) (defScope s_law) .none kV_law dc_law pm_law an_law cd_law ct_law, fun s v => .of_eq rfl, fun base _ _ => ?_⟩
  have M := fun {x : Str} {v : Value} (a : PySem.W.nsIn K mainGlobals x = some (some v)) => PySem.W.mg_of X G a
  have gj : Bj mg := ⟨g, PySem.W.mg_none_of X G z_min, PySem.W.mg_none_of X G z_max⟩
  have FII : Def l.prog w K mg base CX0 1 "is_integer" ["thing"] (spIsInteger K) f_isint _ := ⟨ok_is_integer F_isint g, M a_isint, k_isint, b_isint⟩
  have FIW : Def l.prog w K mg base CX0 1 "is_word" ["thing"] (spIsWord K) f_isword _ := ⟨ok_is_word F_isword g (M a_LET), M a_isword, k_isword, b_isword⟩
  have FIS : Def l.prog w K mg base CX0 2 "is_small" ["thing"] (spIsSmall K) f_issmall _ := ⟨ok_is_small F_issmall g FII, M a_issmall, k_issmall, b_issmall⟩
  have FIP : Def l.prog w K mg base CX0 3 "is_pair" ["thing"] (spIsPair K) f_ispair _ := ⟨ok_is_pair F_ispair g FIW FIS, M a_ispair, k_ispair, b_ispair⟩
  have FDI : Def l.prog w K mg base CX0 1 "distinct" ["words"] (spDistinct K) f_distinct _ := ⟨ok_distinct F_distinct g, M a_distinct, k_distinct, b_distinct⟩
  have FSO : Def l.prog w K mg base CX0 1 "_law_source" ["_law_script"] (spSource K) f_source _ := ⟨ok_source F_source g, M a_source, k_source, b_source⟩
  have FDR : Def l.prog w K mg base CX0 2 "_law_draw" ["_law_source_here", "_law_size"] spDraw f_draw _ := ⟨ok_draw F_draw g F_mixed (M a_mixed) b_mixed, M a_draw, k_draw, b_draw⟩
  have FWD : Def l.prog w K mg base CX0 3 "_law_word" ["_law_source_here"] spWord f_word _ := ⟨ok_word F_word g FDR, M a_word, k_word, b_word⟩
  have FNU : Def l.prog w K mg base CX0 3 "_law_number" ["_law_source_here"] spNumber f_number _ := ⟨ok_number F_number g FDR, M a_number, k_number, b_number⟩
  have FPA : Def l.prog w K mg base CX0 4 "_law_pairs" ["_law_source_here", "_law_most"] spPairs f_pairs _ := ⟨ok_pairs F_pairs g FDR FWD FNU, M a_pairs, k_pairs, b_pairs⟩
  have FMO : Def l.prog w K mg base CX0 1 "_law_model" ["_law_pairs_here"] spModel f_model _ := ⟨ok_model F_model g, M a_model, k_model, b_model⟩
  have FTO : Def l.prog w K mg base CX0 1 "_law_told" ["_law_model_here"] spTold f_told _ := ⟨ok_told F_told g, M a_told, k_told, b_told⟩
  have FLI : Def l.prog w K mg base CX0 1 "_law_is_integer" ["_law_thing"] (spIsInteger K) f_lint _ := ⟨ok_lint F_lint g, M a_lint, k_lint, b_lint⟩
  have cl : Cls K C := ⟨pg_C, hd_C, po_C, sa_C⟩
  have T : CT l.prog w K mg base C f_init := ⟨cl, n_C_held, M a_C, ⟨mk_C, a_init, i_init, kc_C⟩, ok_init g cl n_C_held l_init c_init⟩
  have MWO : MDef l.prog w K mg base CX0 2 C "words" ["self"] (spWords C) f_mwords _ := ⟨⟨a_mwords, i_mwords, k_mwords⟩, ok_words F_mwords g T FDI, b_mwords⟩
  have MPA : MDef l.prog w K mg base CX0 3 C "pairs" ["self"] (spPairsM C) f_mpairs _ := ⟨⟨a_mpairs, i_mpairs, k_mpairs⟩, ok_pairsM F_mpairs g T MWO, b_mpairs⟩
  have SGE : GDef l.prog w K mg base CX0 2 C "__getitem__" ["self", "word"] (spGet C) f_mget _ := ⟨⟨a_mget, i_mget⟩, fi_mget, ok_get F_mget g T FIW, b_mget⟩
  have MRE : SDef l.prog w K mg base CX0 3 C "__repr__" ["self"] (spRepr C) f_mrepr _ := ⟨⟨a_mrepr, i_mrepr⟩, ns_C, ok_repr F_mrepr g T MWO, b_mrepr⟩
  have MCS : RDef l.prog w K mg base CX0 4 C "columns" (spCols C) f_mcols := ⟨⟨a_mcols, i_mcols, k_mcols⟩, ok_columns g T MWO SGE l_mcols c_mcols⟩
  have MOF : KDef l.prog w K mg base CX0 4 C (.type "type") "of" (spOf K C) q_mof f_mof := ⟨⟨rd_C, ga_C⟩, ⟨a_mof, ⟨_, rc_mof⟩, fi_mof⟩, fnR_of (ok_of F_mof g T FIP) b_mof⟩
  have FEQ : Def l.prog w K mg base CX0 4 "_law_equal" ["_law_counts", "_law_model_here"] (spEqual C) f_equal _ := ⟨ok_equal F_equal g T MPA FTO FLI, M a_equal, k_equal, b_equal⟩
  have FCO : Def l.prog w K mg base CX0 1 "_law_commas" ["_law_number_here"] spCommas f_commas _ := ⟨ok_commas F_commas g, M a_commas, k_commas, b_commas⟩
  have FLN : Def l.prog w K mg base CX0 2 "_law_line" ["_law_word_here", "_law_number_here"] spLine f_line _ := ⟨ok_line F_line g FCO, M a_line, k_line, b_line⟩
  exact ok_law F_law g (PySem.W.mg_none_of X G z_repr) T FSO FPA FMO MOF FWD FDR FTO MCS FLN MRE FEQ
theorem walk {l : PySem.W.OpenLaw} {q : Program} {loose : List Str} {XP : (Str → Option Value) → Heap → Prop} {YP : World → Heap → Prop} {d : DefRec} {K : Params → PySem.W.Frag} (hn : l.most = some 63) (hdf : d.params.defaults = [])
    (hY : ∀ (w : World) (h : Heap), YP w h → (K w.params).In h)
    (F : ∀ (w : World) (mg : Str → Option Value) (fa : Addr) (h : Heap), (K w.params).In h → h.Ns mainGlobals mg → mg d.name = some (.ref fa) →
      ∃ fd : FuncData, (∀ (s : Shared) (u : Value), BindsTo s fd ⟨[u], []⟩ [("_law_script", u)]) ∧ ∀ base : Heap, (K w.params).In base → base.Ns mainGlobals mg → FnOk l.prog w (K w.params) mg base CX0 6 fa fd ["_law_script"] (spLaw (K w.params))) :
    PySem.W.WalkO q loose XP YP l.row.toRowW d [] (fun f vs => PySem.call f vs) :=
  L2.walk_of (n := 63) (k := 6) (x := "_law_script") (CX := fun _ => CX0) (sp := fun w => spLaw (K w.params)) hn (by decide) hdf ⟨rfl, by decide, by decide⟩ hY F (fun _ _ a ns hl _ hS => ⟨a, ns, rfl, hS, hl, fun _ => rfl⟩) fun _ _ _ _ _ z => z
end Cs
open PySem PySem.W PyProof.Rows
set_option maxRecDepth 100000 in
set_option maxHeartbeats 0 in
theorem PySem.Challenge.cw_countsheld_k09_columns_and_texts_holds : PySem.Challenge.rw_countsheld_k09_columns_and_texts.Holds := by
  w_on; o_law; k_head; (case hw => w_witness2)
  k_fill
  refine Cs.walk (l := PySem.Challenge.rw_countsheld_k09_columns_and_texts) rfl rfl (fun w h Y => PySem.W.kIn_of Y) ?F
  case F =>
    intro w mg fa h KX G hmg
    refine' Cs.all_mk KX G hmg ?a_isint ?l_isint ?c_isint ?k_isint ?a_isword ?l_isword ?c_isword ?k_isword ?a_issmall ?l_issmall ?c_issmall ?k_issmall ?a_ispair ?l_ispair ?c_ispair ?k_ispair ?a_distinct ?l_distinct ?c_distinct ?k_distinct ?a_source ?l_source ?c_source ?k_source ?a_mixed ?l_mixed ?c_mixed ?k_mixed ?a_draw ?l_draw ?c_draw ?k_draw ?a_word ?l_word ?c_word ?k_word ?a_number ?l_number ?c_number ?k_number ?a_pairs ?l_pairs ?c_pairs ?k_pairs ?a_model ?l_model ?c_model ?k_model ?a_told ?l_told ?c_told ?k_told ?a_lint ?l_lint ?c_lint ?k_lint ?a_equal ?l_equal ?c_equal ?k_equal ?a_commas ?l_commas ?c_commas ?k_commas ?a_line ?l_line ?c_line ?k_line ?a_law ?l_law ?c_law ?k_law ?a_C ?pg_C ?hd_C ?po_C ?sa_C ?mk_C ?kc_C ?ns_C ?n_C_held ?a_init ?i_init ?l_init ?c_init ?k_init ?a_mwords ?i_mwords ?l_mwords ?c_mwords ?k_mwords ?a_mpairs ?i_mpairs ?l_mpairs ?c_mpairs ?k_mpairs ?a_mget ?i_mget ?l_mget ?c_mget ?k_mget ?a_mrepr ?i_mrepr ?l_mrepr ?c_mrepr ?k_mrepr ?a_mcols ?i_mcols ?l_mcols ?c_mcols ?k_mcols ?a_mof ?rc_mof ?l_mof ?c_mof ?fi_mof ?k_mof ?rd_C ?ga_C ?a_LET ?fi_mget ?z_len ?z_int ?z_abs ?z_list ?z_range ?z_sorted ?z_str ?z_isinstance ?z_sum ?z_tuple ?z_dict ?z_all ?z_bool ?z_enumerate ?z_min ?z_max ?z_repr
    (case a_isint => k_is)
    (case l_isint => k_is)
    (case c_isint => k_is)
    (case k_isint => k_is)
    (case a_isword => k_is)
    (case l_isword => k_is)
    (case c_isword => k_is)
    (case k_isword => k_is)
    (case a_issmall => k_is)
    (case l_issmall => k_is)
    (case c_issmall => k_is)
    (case k_issmall => k_is)
    (case a_ispair => k_is)
    (case l_ispair => k_is)
    (case c_ispair => k_is)
    (case k_ispair => k_is)
    (case a_distinct => k_is)
    (case l_distinct => k_is)
    (case c_distinct => k_is)
    (case k_distinct => k_is)
    (case a_source => k_is)
    (case l_source => k_is)
    (case c_source => k_is)
    (case k_source => k_is)
    (case a_mixed => k_is)
    (case l_mixed => k_is)
    (case c_mixed => k_is)
    (case k_mixed => k_is)
    (case a_draw => k_is)
    (case l_draw => k_is)
    (case c_draw => k_is)
    (case k_draw => k_is)
    (case a_word => k_is)
    (case l_word => k_is)
    (case c_word => k_is)
    (case k_word => k_is)
    (case a_number => k_is)
    (case l_number => k_is)
    (case c_number => k_is)
    (case k_number => k_is)
    (case a_pairs => k_is)
    (case l_pairs => k_is)
    (case c_pairs => k_is)
    (case k_pairs => k_is)
    (case a_model => k_is)
    (case l_model => k_is)
    (case c_model => k_is)
    (case k_model => k_is)
    (case a_told => k_is)
    (case l_told => k_is)
    (case c_told => k_is)
    (case k_told => k_is)
    (case a_lint => k_is)
    (case l_lint => k_is)
    (case c_lint => k_is)
    (case k_lint => k_is)
    (case a_equal => k_is)
    (case l_equal => k_is)
    (case c_equal => k_is)
    (case k_equal => k_is)
    (case a_commas => k_is)
    (case l_commas => k_is)
    (case c_commas => k_is)
    (case k_commas => k_is)
    (case a_line => k_is)
    (case l_line => k_is)
    (case c_line => k_is)
    (case k_line => k_is)
    (case a_law => k_is)
    (case l_law => k_is)
    (case c_law => k_is)
    (case k_law => k_is)
    (case a_C => k_is)
    (case pg_C => k_is)
    (case hd_C => k_is)
    (case po_C => k_is)
    (case sa_C => k_is)
    (case mk_C => k_is)
    (case kc_C => k_is)
    (case ns_C => k_is)
    (case n_C_held => k_is)
    (case a_init => k_is)
    (case i_init => k_is)
    (case l_init => k_is)
    (case c_init => k_is)
    (case k_init => k_is)
    (case a_mwords => k_is)
    (case i_mwords => k_is)
    (case l_mwords => k_is)
    (case c_mwords => k_is)
    (case k_mwords => k_is)
    (case a_mpairs => k_is)
    (case i_mpairs => k_is)
    (case l_mpairs => k_is)
    (case c_mpairs => k_is)
    (case k_mpairs => k_is)
    (case a_mget => k_is)
    (case i_mget => k_is)
    (case l_mget => k_is)
    (case c_mget => k_is)
    (case k_mget => k_is)
    (case a_mrepr => k_is)
    (case i_mrepr => k_is)
    (case l_mrepr => k_is)
    (case c_mrepr => k_is)
    (case k_mrepr => k_is)
    (case a_mcols => k_is)
    (case i_mcols => k_is)
    (case l_mcols => k_is)
    (case c_mcols => k_is)
    (case k_mcols => k_is)
    (case a_mof => k_is)
    (case rc_mof => k_is)
    (case l_mof => k_is)
    (case c_mof => k_is)
    (case fi_mof => k_is)
    (case k_mof => k_is)
    (case rd_C => k_is)
    (case ga_C => k_is)
    (case a_LET => k_is)
    (case fi_mget => k_is)
    (case z_len => k_is)
    (case z_int => k_is)
    (case z_abs => k_is)
    (case z_list => k_is)
    (case z_range => k_is)
    (case z_sorted => k_is)
    (case z_str => k_is)
    (case z_isinstance => k_is)
    (case z_sum => k_is)
    (case z_tuple => k_is)
    (case z_dict => k_is)
    (case z_all => k_is)
    (case z_bool => k_is)
    (case z_enumerate => k_is)
    (case z_min => k_is)
    (case z_max => k_is)
    (case z_repr => k_is)
