import PyProof.Rows.All
import Wide.All
import OpenK.AllK
import Wide.FinOn
import HandS.ForMost
import HandS.Nested
import HandS.Set
import HandS.SetBool
import PyProof.Rows.SortShellAny
import KE.KOpsOwn
import HandS.Star
import HandS.ClsMeth
import HandS.Property
import HandS.CallRecv
import HandS.Codes
import HandS.Wide
import HandS.IsInst
import HandS.RaiseMore
import HandS.Walk
import HandS.FStr
import PyProof.ListStr
import KE.KParD
import KE.KSuper
import KE.KStar
import HandS.Replace
import KE.KCallOwn
import KE.Datum
import HandS.ExcInit
import HandS.TryOnly
import HandS.WordsExc
import HandS.ExcOwn
import HandS.ExcIs
import HandS.ExcField
import PyProof.StrLaws
import KE.RegKSuper
import PySem.Challenge.RW_countsheld_k17_rules_not_read
set_option Elab.async false
set_option linter.all false
set_option maxRecDepth 100000
set_option maxHeartbeats 4000000
namespace Cs
open PySem L2
def top (i : Nat) : Stmt := PySem.Challenge.pw_countsheld_k17_rules_not_read.main.body.getD i (.Pass ⟨0, 0, 0, 0⟩)
abbrev s_BadRule_init : Stmt := inClass (top 3) 0
theorem sc_BadRule_init : FnScope ["self", "what"] ["self", "what"] (defScope s_BadRule_init) :=
  ⟨rfl, rfl, rfl, by decide +kernel, rfl, by decide +kernel, by decide +kernel⟩
abbrev s_is_integer : Stmt := top 5
theorem sc_is_integer : FnScope ["thing"] ["thing"] (defScope s_is_integer) :=
  ⟨rfl, rfl, rfl, by decide +kernel, rfl, by decide +kernel, by decide +kernel⟩
abbrev s_is_word : Stmt := top 10
theorem sc_is_word : FnScope ["thing", "sign"] ["thing"] (defScope s_is_word) :=
  ⟨rfl, rfl, rfl, by decide +kernel, rfl, by decide +kernel, by decide +kernel⟩
abbrev s_is_kind : Stmt := top 11
theorem sc_is_kind : FnScope ["thing"] ["thing"] (defScope s_is_kind) :=
  ⟨rfl, rfl, rfl, by decide +kernel, rfl, by decide +kernel, by decide +kernel⟩
abbrev s_is_digit : Stmt := top 12
theorem sc_is_digit : FnScope ["text"] ["text"] (defScope s_is_digit) :=
  ⟨rfl, rfl, rfl, by decide +kernel, rfl, by decide +kernel, by decide +kernel⟩
abbrev s_distinct : Stmt := top 13
theorem sc_distinct : FnScope ["words", "word"] ["words"] (defScope s_distinct) :=
  ⟨rfl, rfl, rfl, by decide +kernel, rfl, by decide +kernel, by decide +kernel⟩
abbrev s_is_bound : Stmt := top 15
theorem sc_is_bound : FnScope ["thing"] ["thing"] (defScope s_is_bound) :=
  ⟨rfl, rfl, rfl, by decide +kernel, rfl, by decide +kernel, by decide +kernel⟩
abbrev s_Rule_init : Stmt := inClass (top 16) 0
theorem sc_Rule_init : FnScope ["self", "kinds", "kind"] ["self", "kinds"] (defScope s_Rule_init) :=
  ⟨rfl, rfl, rfl, by decide +kernel, rfl, by decide +kernel, by decide +kernel⟩
abbrev s_Rule_sum_text : Stmt := inClass (top 16) 4
theorem sc_Rule_sum_text : FnScope ["self"] ["self"] (defScope s_Rule_sum_text) :=
  ⟨rfl, rfl, rfl, by decide +kernel, rfl, by decide +kernel, by decide +kernel⟩
abbrev s_Rule_eq : Stmt := inClass (top 16) 5
theorem sc_Rule_eq : FnScope ["self", "other", "same"] ["self", "other"] (defScope s_Rule_eq) :=
  ⟨rfl, rfl, rfl, by decide +kernel, rfl, by decide +kernel, by decide +kernel⟩
abbrev s_AtLeast_init : Stmt := inClass (top 17) 0
theorem sc_AtLeast_init : NdefX.NScope ["self", "least", "rest", "__class__"] ["self", "least", "rest"] ["__class__"] (defScope s_AtLeast_init) := NdefX.nscope_by (by decide +kernel)
abbrev s_AtLeast_str : Stmt := inClass (top 17) 3
theorem sc_AtLeast_str : FnScope ["self"] ["self"] (defScope s_AtLeast_str) :=
  ⟨rfl, rfl, rfl, by decide +kernel, rfl, by decide +kernel, by decide +kernel⟩
abbrev s_AtMost_init : Stmt := inClass (top 18) 0
theorem sc_AtMost_init : NdefX.NScope ["self", "most", "kinds", "__class__"] ["self", "most", "kinds"] ["__class__"] (defScope s_AtMost_init) := NdefX.nscope_by (by decide +kernel)
abbrev s_AtMost_str : Stmt := inClass (top 18) 3
theorem sc_AtMost_str : FnScope ["self"] ["self"] (defScope s_AtMost_str) :=
  ⟨rfl, rfl, rfl, by decide +kernel, rfl, by decide +kernel, by decide +kernel⟩
abbrev s_Between_init : Stmt := inClass (top 19) 0
theorem sc_Between_init : NdefX.NScope ["self", "least", "most", "kinds", "__class__"] ["self", "least", "most", "kinds"] ["__class__"] (defScope s_Between_init) := NdefX.nscope_by (by decide +kernel)
abbrev s_Between_str : Stmt := inClass (top 19) 3
theorem sc_Between_str : FnScope ["self"] ["self"] (defScope s_Between_str) :=
  ⟨rfl, rfl, rfl, by decide +kernel, rfl, by decide +kernel, by decide +kernel⟩
abbrev s_Exactly_init : Stmt := inClass (top 20) 0
theorem sc_Exactly_init : NdefX.NScope ["self", "number", "kinds", "__class__"] ["self", "number", "kinds"] ["__class__"] (defScope s_Exactly_init) := NdefX.nscope_by (by decide +kernel)
abbrev s_Exactly_str : Stmt := inClass (top 20) 3
theorem sc_Exactly_str : FnScope ["self"] ["self"] (defScope s_Exactly_str) :=
  ⟨rfl, rfl, rfl, by decide +kernel, rfl, by decide +kernel, by decide +kernel⟩
abbrev s_read_kinds : Stmt := top 21
theorem sc_read_kinds : FnScope ["names", "good", "name"] ["names"] (defScope s_read_kinds) :=
  ⟨rfl, rfl, rfl, by decide +kernel, rfl, by decide +kernel, by decide +kernel⟩
abbrev s_read_rule : Stmt := top 22
theorem sc_read_rule : FnScope ["text", "words", "digits", "names", "kinds", "numbers", "digit"] ["text"] (defScope s_read_rule) :=
  ⟨rfl, rfl, rfl, by decide +kernel, rfl, by decide +kernel, by decide +kernel⟩
abbrev s_l_source : Stmt := top 24
theorem sc_l_source : FnScope ["_law_script"] ["_law_script"] (defScope s_l_source) :=
  ⟨rfl, rfl, rfl, by decide +kernel, rfl, by decide +kernel, by decide +kernel⟩
abbrev s_l_mixed : Stmt := top 25
theorem sc_l_mixed : FnScope ["_law_cell", "_law_count", "_law_first"] ["_law_cell", "_law_count"] (defScope s_l_mixed) :=
  ⟨rfl, rfl, rfl, by decide +kernel, rfl, by decide +kernel, by decide +kernel⟩
abbrev s_l_draw : Stmt := top 26
theorem sc_l_draw : FnScope ["_law_source_here", "_law_size", "_law_at", "_law_cell", "_law_value"] ["_law_source_here", "_law_size"] (defScope s_l_draw) :=
  ⟨rfl, rfl, rfl, by decide +kernel, rfl, by decide +kernel, by decide +kernel⟩
abbrev s_l_kind : Stmt := top 27
theorem sc_l_kind : FnScope ["_law_source_here", "_law_taken", "_law_letters", "_law_barred", "_law_words", "_law_word", "_law_k"] ["_law_source_here", "_law_taken"] (defScope s_l_kind) :=
  ⟨rfl, rfl, rfl, by decide +kernel, rfl, by decide +kernel, by decide +kernel⟩
abbrev s_l_kinds : Stmt := top 28
theorem sc_l_kinds : FnScope ["_law_source_here", "_law_many", "_law_kinds_here", "_law_k"] ["_law_source_here", "_law_many"] (defScope s_l_kinds) :=
  ⟨rfl, rfl, rfl, by decide +kernel, rfl, by decide +kernel, by decide +kernel⟩
abbrev s_l_forms : Stmt := top 29
theorem sc_l_forms : FnScope ["_law_low", "_law_high", "_law_kinds_here", "_law_names", "_law_texts"] ["_law_low", "_law_high", "_law_kinds_here"] (defScope s_l_forms) :=
  ⟨rfl, rfl, rfl, by decide +kernel, rfl, by decide +kernel, by decide +kernel⟩
abbrev s_l_what : Stmt := top 30
theorem sc_l_what : FnScope ["_law_text", "e"] ["_law_text"] (defScope s_l_what) :=
  ⟨rfl, rfl, rfl, by decide +kernel, rfl, by decide +kernel, by decide +kernel⟩
abbrev s_l_faulty : Stmt := top 31
theorem sc_l_faulty : FnScope ["_law_choice", "_law_mode", "_law_text", "_law_names", "_law_rest", "_law_digit", "_law_head", "_law_rows"] ["_law_choice", "_law_mode", "_law_text", "_law_names"] (defScope s_l_faulty) :=
  ⟨rfl, rfl, rfl, by decide +kernel, rfl, by decide +kernel, by decide +kernel⟩
abbrev s_l_no_string : Stmt := top 32
theorem sc_l_no_string : FnScope ["_law_choice"] ["_law_choice"] (defScope s_l_no_string) :=
  ⟨rfl, rfl, rfl, by decide +kernel, rfl, by decide +kernel, by decide +kernel⟩
abbrev s_law : Stmt := top 33
theorem sc_law : FnScope ["_law_script", "_law_source_here", "_law_kinds_here", "_law_some", "_law_low", "_law_high", "_law_mode", "_law_choice", "_law_text", "_law_bad", "_law_wrong"] ["_law_script"] (defScope s_law) :=
  ⟨rfl, rfl, rfl, by decide +kernel, rfl, by decide +kernel, by decide +kernel⟩
end Cs

set_option Elab.async false
set_option linter.all false
set_option maxRecDepth 100000
set_option maxHeartbeats 4000000
/-! Sets of texts as a set comprehension makes them: a list of members without repeats, up to order; and sorted(..) of such a set. -/
namespace Cs
open PySem PySem.Spec PyProof.Rows L2

def tkey (e : Int × Value) : Str := match e.2 with | .str z _ => z | _ => Str.empty
def TGood (w : World) (e : Int × Value) : Prop := ∃ z tk, e.2 = Value.str z tk ∧ e.1 = hashStr w z
/-- a set object whose members are the texts zs (in some order) -/
def TSet (w : World) (h : Heap) (a : Addr) (zs : List Str) : Prop :=
  ∃ o es ep t, h.get? a = some o ∧ o.ExactSet ∧ o.data = .set es ep t ∧ (∀ e ∈ es.toList, TGood w e)
    ∧ (es.toList.map tkey).Perm zs ∧ zs.Nodup ∧ es.size < scanBound ∧ t.fits es.size = true
    ∧ Ris t.place.toList ∧ (w.params.followText "set-order" = true ∨ t.led = true)

section
variable {P : Program} {w : World} {h h' : Heap} {a : Addr} {zs : List Str}
theorem TSet.there (R : TSet w h a zs) (k : ∀ o, h.get? a = some o → h'.get? a = some o) : TSet w h' a zs := by
  obtain ⟨o, es, ep, t, q, r⟩ := R
  exact ⟨o, es, ep, t, k o q, r⟩
theorem TGood.elems {l : List (Int × Value)} (g : ∀ e ∈ l, TGood w e) : ElemsOf (PySem.strKind P w) l := fun e m => by
  obtain ⟨z, tk, e1, e2⟩ := g e m
  refine ⟨⟨z, ?_, e2⟩, ?_⟩
  · rw [e1]
    show Value.isStrOf z (.str z tk) = true
    simp [Value.isStrOf]
  · rw [e1]
    rfl
theorem TGood.is_iff {e : Int × Value} (g : TGood w e) (z : Str) : (PySem.strKind P w).is z e.2 = true ↔ tkey e = z := by
  obtain ⟨y, tk, e1, _⟩ := g
  unfold tkey
  rw [e1]
  show Value.isStrOf z (.str y tk) = true ↔ y = z
  simp [Value.isStrOf]
theorem TGood.mem_iff {l : List (Int × Value)} (g : ∀ e ∈ l, TGood w e) (z : Str) : z ∈ l.map tkey ↔ ∃ e ∈ l, (PySem.strKind P w).is z e.2 = true := by
  constructor
  · intro m
    obtain ⟨e, he, q⟩ := List.mem_map.mp m
    exact ⟨e, he, (TGood.is_iff (g e he) z).mpr q⟩
  · rintro ⟨e, he, q⟩
    exact List.mem_map.mpr ⟨e, he, (TGood.is_iff (g e he) z).mp q⟩
end

section
variable {P : Program} {w : World} {A : Around} {E : Value → Shared → Prop} {s : Shared} {a : Addr} {zs : List Str}
/-- the end of an addition: the table is stored, laid anew where it is too full -/
theorem tset_tail {g : Bool → Sem Unit} (hg : ∀ (b : Bool) (s1 : Shared) (Q1 : Unit → Shared → Prop), Q1 () s1 → wpAny (model P w) A (g b) Q1 E s1)
    {o : Obj} {es es1 : Array (Int × Value)} {ep : Nat} {t t1 : SetTable} (ho : s.heap.get? a = some o) (hex : o.ExactSet) (hd : o.data = .set es ep t)
    (gd : ∀ e ∈ es1.toList, TGood w e) (pz : (es1.toList.map tkey).Perm zs) (nz : zs.Nodup) (hb : es1.size < scanBound) (hf : t1.fits es1.size = true)
    (hr : Ris t1.place.toList) (hl : w.params.followText "set-order" = true ∨ t1.led = true) {dm : Bool} {R : Option Bool → Shared → Prop}
    (hR : ∀ h', Heap.SameBut a s.heap h' → TSet w h' a zs → R (some true) { s with heap := h' }) :
    wpAny (model P w) A (do
        storeSet a es1 t1
        if (!dm && t1.tooFull) = true then do
            g (relayAll t1 es1 (SetTable.grown es1.size)).2.2
            storeSet a (relayAll t1 es1 (SetTable.grown es1.size)).1 (relayAll t1 es1 (SetTable.grown es1.size)).2.1
            pure (some true)
          else pure (some true)) R E s := by
  refine wpAny_bind (wpAny_storeSet_of ho hd ?_ (fits_of_scanBound hb))
  have ho1 := store_at (es' := es1) (t' := t1) ho hd
  have same := Heap.SameBut.update s.heap a (Obj.putSet es1 t1)
  split
  · have p2 := relayAll_perm t1 es1 (SetTable.grown es1.size)
    have f2 := relayAll_fits t1 es1 (SetTable.grown es1.size)
    have r2 := relayAll_ris t1 es1 (SetTable.grown es1.size)
    have l2 := relayAll_led t1 es1 (SetTable.grown es1.size)
    generalize relayAll t1 es1 (SetTable.grown es1.size) = Z at p2 f2 r2 l2 ⊢
    obtain ⟨es2, t2, gv⟩ := Z
    dsimp only at p2 f2 r2 l2 ⊢
    have sz : es2.size = es1.size := by rw [← Array.length_toList, p2.length_eq, Array.length_toList]
    have hb2 : es2.size < scanBound := sz ▸ hb
    refine wpAny_bind (hg _ _ _ (wpAny_bind (wpAny_storeSet_of ho1 rfl ?_ (fits_of_scanBound hb2))))
    have ho2 := store_at (es' := es2) (t' := t2) ho1 rfl
    exact wpAny_pure (hR _ (same.trans (Heap.SameBut.update _ a _)) ⟨_, es2, _, t2, ho2, hex, rfl, fun e m => gd e (p2.mem_iff.mp m), (p2.map tkey).trans pz, nz, hb2, f2, r2, hl.imp id fun q => by rw [l2]; exact q⟩)
  · exact wpAny_pure (hR _ same ⟨_, es1, _, t1, ho1, hex, rfl, gd, pz, nz, hb, hf, hr, hl⟩)

/-- one text more -/
def addT (zs : List Str) (z : Str) : List Str := if z ∈ zs then zs else zs ++ [z]

theorem tset_hashed {z : Str} {tk : Tok} {Q : Bool → Shared → Prop} (R : TSet w s.heap a zs) (room : zs.length + 1 < scanBound)
    (hQ : ∀ b h', Heap.SameBut a s.heap h' → TSet w h' a (addT zs z) → Q b { s with heap := h' }) :
    wpAny (model P w) A (setAddHashed a (.str z tk) ((PySem.strKind P w).hash z)) Q E s := by
  obtain ⟨o, es, ep, t, ho, hex, hd, gd, pz, nz, hb, hf, hr, hl⟩ := R
  have hkey : (PySem.strKind P w).is z (.str z tk) = true := by
    show Value.isStrOf z (.str z tk) = true
    simp [Value.isStrOf]
  have hsc : (Value.str z tk).scannable = true := rfl
  have hel : ElemsOf (PySem.strKind P w) es.toList := TGood.elems gd
  have hn : es.size = zs.length := by rw [← Array.length_toList, ← pz.length_eq, List.length_map]
  unfold setAddHashed setAddHashedIn
  refine wpAny_holding (wpAny_bind (wpAny_setState_of ho hd hf ?_))
  dsimp only
  rw [byScan_of hsc hb hel]
  simp only [↓reduceIte]
  unfold setAddByScan
  refine wpAny_bind (wpAny_bind (wpAny_rule (wpAny_bind (wpAny_setScan_of hkey ho hd hf hel ?_))))
  cases hfi : List.findIdx? (fun e => (PySem.strKind P w).is z e.2) es.toList with
  | some j =>
    dsimp only
    obtain ⟨hj, pj, _⟩ := List.findIdx?_eq_some_iff_getElem.mp hfi
    have hin : z ∈ zs := pz.mem_iff.mp ((TGood.mem_iff (P := P) gd z).mpr ⟨_, List.getElem_mem hj, pj⟩)
    have q := hQ false s.heap (Heap.SameBut.refl a s.heap)
    rw [show addT zs z = zs from if_pos hin] at q
    exact wpAny_pure (wpAny_pure (q ⟨o, es, ep, t, ho, hex, hd, gd, pz, nz, hb, hf, hr, hl⟩))
  | none =>
    dsimp only
    have hout : z ∉ zs := fun m => by
      obtain ⟨e, he, q⟩ := (TGood.mem_iff (P := P) (w := w) gd z).mp (pz.mem_iff.mpr m)
      have c := List.findIdx?_eq_none_iff.mp hfi e he
      rw [q] at c
      cases c
    have hgw : ∀ (b : Bool) {s1 : Shared} {Q1 : Unit → Shared → Prop}, Q1 () s1 → wpAny (model P w) A (match b with | true => rule "set.scan.the-table-gave-way" | false => pure ()) Q1 E s1 :=
      fun b s1 Q1 q => by cases b <;> first | exact wpAny_pure q | exact wpAny_rule q
    have p1 := layNew_perm t es ((PySem.strKind P w).hash z) (.str z tk)
    have f1 := layNew_fits t es ((PySem.strKind P w).hash z) (.str z tk)
    have r1 := layNew_ris t es ((PySem.strKind P w).hash z) (.str z tk) hr
    have l1 := layNew_led t es ((PySem.strKind P w).hash z) (.str z tk)
    generalize layNew t es ((PySem.strKind P w).hash z) (.str z tk) = Z at p1 f1 r1 l1 ⊢
    obtain ⟨es1, t1, dm, gv⟩ := Z
    dsimp only at p1 f1 r1 l1 ⊢
    rw [Array.toList_push] at p1
    have gd1 : ∀ e ∈ es1.toList, TGood w e := fun e m => by
      rcases List.mem_append.mp (p1.mem_iff.mp m) with q | q
      · exact gd e q
      · rw [List.mem_singleton.mp q]
        exact ⟨z, tk, rfl, rfl⟩
    have ez : addT zs z = zs ++ [z] := if_neg hout
    have pz1 : (es1.toList.map tkey).Perm (addT zs z) := by
      rw [ez]
      refine (p1.map tkey).trans ?_
      rw [List.map_append]
      exact pz.append_right _
    have nz1 : (addT zs z).Nodup := by
      rw [ez]
      exact nd_snoc nz hout
    have sz1 : es1.size = zs.length + 1 := by
      rw [← Array.length_toList, p1.length_eq, List.length_append, Array.length_toList, hn]
      rfl
    have hb1 : es1.size < scanBound := by rw [sz1]; exact room
    have hl1 : w.params.followText "set-order" = true ∨ t1.led = true := hl.imp id fun q => by rw [l1]; exact q
    have fin : ∀ h', Heap.SameBut a s.heap h' → TSet w h' a (addT zs z) → Q true { s with heap := h' } := hQ true
    refine wpAny_bind (hgw _ ?_)
    split
    · refine wpAny_bind ?_
      rw [hashByValue_scannable 8 hsc]
      refine wpAny_pure ?_
      refine tset_tail ?_ ho hex hd gd1 pz1 nz1 hb1 ?_ ?_ ?_ ?_
      · intro b s1 Q1 q
        cases b <;> first | exact wpAny_pure q | exact wpAny_rule q
      · first | (split <;> first | exact f1 | exact SetTable.fits_plain_off f1) | exact f1
      · first | (split <;> exact r1) | exact r1
      · first | (split <;> exact hl1) | exact hl1
      · intro h' sb r
        dsimp only
        exact wpAny_pure (fin h' sb r)
    · refine wpAny_bind (wpAny_pure ?_)
      simp only [↓reduceIte]
      refine tset_tail ?_ ho hex hd gd1 pz1 nz1 hb1 f1 r1 hl1 ?_
      · intro b s1 Q1 q
        cases b <;> first | exact wpAny_pure q | exact wpAny_rule q
      · intro h' sb r
        dsimp only
        exact wpAny_pure (fin h' sb r)

theorem TSet.typeIs {zs : List Str} (R : TSet w s.heap a zs) : s.TypeIs (.ref a) "set" := by
  obtain ⟨o, es, ep, t, ho, hex, _⟩ := R
  exact ⟨o, ho, hex.1⟩
/-- s.add(z) -/
theorem tset_add {z : Str} {tk : Tok} {Q : Value → Shared → Prop} (R : TSet w s.heap a zs) (room : zs.length + 1 < scanBound)
    (hQ : ∀ h', Heap.SameBut a s.heap h' → TSet w h' a (addT zs z) → Q .none { s with heap := h', toks := s.toks + 1 }) :
    wpAny (model P w) A (call (.builtin "set.add") [.ref a, .str z tk]) Q E s := by
  have hkey : (PySem.strKind P w).is z (.str z tk) = true := by
    show Value.isStrOf z (.str z tk) = true
    simp [Value.isStrOf]
  refine wpAny_call_entry F.slot_set_add R.typeIs F.entry_set_add ?_ (F.args_set_add_2 _ _)
  unfold Builtin.«set.add» Builtin.Frozenset.oneOther
  simp only [List.isEmpty_nil, bind_assoc]
  unfold Builtin.Frozenset.addrOf setAdd
  refine wpAny_bind (wpAny_pure ?_)
  try dsimp only
  refine wpAny_bind (wpAny_pure ?_)
  try dsimp only
  refine wpAny_bind (wpAny_holding (wpAny_bind ((PySem.strKind P w).pyHash hkey ?_)))
  refine tset_hashed (s := { s with toks := s.toks + 1 }) R room fun b h' sb r => ?_
  show wpAny _ _ (ret Value.none) _ _ _
  exact wpAny_pure ⟨_, rfl, hQ h' sb r⟩
theorem tset_fresh {h : Heap} (w : World) : TSet w (h.push { cls := .type "set", dict := none, data := .set #[] 0 (.fresh 0 0 (!w.params.followText "set-order")) }) h.objs.size [] := by
  refine ⟨_, #[], 0, _, Heap.get?_push_size _ rfl, ⟨rfl, rfl, rfl⟩, rfl, (fun e m => by simp at m), .nil, .nil, by decide, rfl, .nil, ?_⟩
  show _ ∨ (!w.params.followText "set-order") = true
  cases w.params.followText "set-order"
  · exact Or.inr rfl
  · exact Or.inl rfl

/-! ### sorted -/
theorem strs_of : ∀ (l : List Value), (∀ v ∈ l, ∃ z tk, v = Value.str z tk) → StrsAre l (l.map fun v => tkey (0, v))
  | [], _ => .nil
  | v :: l, h => by
    obtain ⟨z, tk, rfl⟩ := h v List.mem_cons_self
    exact .cons z tk (strs_of l fun u m => h u (List.mem_cons_of_mem _ m))
theorem tset_sorted {Q : Value → Shared → Prop} (R : TSet w s.heap a zs) (hh : A.handled = none)
    (hQ : ∀ s' p (out : Array Value) (c : Nat) (ys : List Str), (∀ b o, s.heap.get? b = some o → s'.heap.get? b = some o) → s'.gens = s.gens → s'.os = s.os → s.heap.objs.size ≤ p →
      s'.heap.get? p = some (seqObj "list" out c) → StrsAre out.toList ys → ys.Perm zs → sortedS ys = true → Q (.ref p) s') :
    wpAny (model P w) A (call (.builtin "sorted") [.ref a]) Q E s := by
  obtain ⟨o, es, ep, t, ho, hex, hd, gd, pz, nz, hb, hf, hr, hl⟩ := R
  refine Calls.call_function_entry kind_sorted plain_sorted entry_sorted (args_sorted1 _) ?_
  unfold Builtin.«sorted»
  refine wpAny_bind (m := checkCount "sorted" 1 1 _) (wpAny_pure ?_)
  refine wpAny_bind (collect_set (A := A.in1) hh ⟨o, ho, hex.1, hd⟩ hf hb hr hl fun s1 vs k1 hz g1 o1 pm => ?_)
  have hvl : vs.length = es.size := by rw [pm.length_eq, List.length_map, Array.length_toList]
  have hS : StrsAre vs (vs.map fun v => tkey (0, v)) := strs_of vs fun v hv => by
    obtain ⟨e, he, q⟩ := List.mem_map.mp (pm.mem_iff.mp hv)
    obtain ⟨z, tk, e1, _⟩ := gd e he
    exact ⟨z, tk, by rw [← q]; exact e1⟩
  have pk : (vs.map fun v => tkey (0, v)).Perm zs := by
    have q := pm.map fun v => tkey (0, v)
    rw [List.map_map] at q
    exact q.trans pz
  have hln : vs.length ≤ sizeLine := by
    rw [hvl]
    exact fits_of_scanBound hb
  refine wpAny_bind (wpAny_newList ?_ hln)
  have hoL : (s1.heap.push (seqObj "list" vs.toArray 0)).get? s1.heap.objs.size = some (seqObj "list" vs.toArray 0) := Heap.get?_push_size _ rfl
  refine wpAny_bind (wpAny_holding (wpAny_call_entry slot_list_sort ⟨_, hoL, rfl⟩ entry_list_sort (list_sort_treeKAny strKind_oneLt hoL hS.keysOf (fun v1 v2 rest e => keyKind_strs (by rw [← e]; exact hS)) hln fun st' hp hs => ⟨_, rfl, ?_⟩) (args_list_sort _)))
  obtain ⟨ys, a1, a2, a3⟩ := sorted_out_str hS hp hs
  generalize (arrOf st').map (·.2) = out at a1 ⊢
  obtain ⟨c, hc⟩ := sortedHeap_at (vs := vs) (out := out) hoL
  refine wpAny_pure ⟨_, rfl, hQ _ s1.heap.objs.size out c ys (fun b u e => ?_) g1 o1 hz hc a1 (a2.trans pk) a3⟩
  have q := k1 b u e
  have hlt := Heap.lt_size q
  show (sortedHeap (s1.heap.push (seqObj "list" vs.toArray 0)) s1.heap.objs.size vs out).get? b = some u
  rw [sortedHeap_old (Nat.ne_of_lt hlt) (by rw [size_push']; exact Nat.lt_succ_of_lt hlt)]
  exact Heap.get?_push_of_some _ q
end

/-! ### over the abstract heap -/
def TSetO (w : World) (a : Addr) (zs : List Str) : HO := .ext fun h => TSet w h a zs
theorem tsetO_new {w : World} {P : Program} {H : Hp} {h : Heap} {a : Addr} {zs : List Str} (R : TSet w h a zs) : ObjOk P w H h a (TSetO w a zs) := by
  have ⟨o, _, _, _, ho, _⟩ := R
  exact ⟨R, ⟨o, ho⟩, fun h1 h2 p k => TSet.there p k⟩
section
variable {X : Cx} {pins : List (Addr × Obj)} {σ : L2.St} {H : Hp} {s : Shared} {zs : List Str}
theorem tsetO_get {a : Addr} (I : Inv X pins σ H s) (ha : H a = some (TSetO X.w a zs)) : TSet X.w s.heap a zs := (I.hok a _ ha).1
theorem tsetO_add {E : Value → Shared → Prop} {D : Addr} {z : Str} {tk : Tok} {Q : Value → Shared → Prop} (I : Inv X pins σ H s) (hD : H D = some (TSetO X.w D zs)) (room : zs.length + 1 < scanBound)
    (h : ∀ s', Inv X pins σ (upd H D (TSetO X.w D (addT zs z))) s' → Q .none s') : wpAny (model X.prog X.w) X.A (call (.builtin "set.add") [.ref D, .str z tk]) Q E s := by
  refine tset_add (tsetO_get I hD) room fun h' sb new => h _ ?_
  have he : ∃ u, h'.get? D = some u := by
    have ⟨o, _, _, _, ho, _⟩ := new
    exact ⟨o, ho⟩
  exact I.write (e := D) (t' := s.toks + 1) (by rw [hD]; trivial) (.inl rfl) (fun b u hb hu => (sb.2 b hb).trans hu) he (tsetO_new new)
/-- sorted(s), s a set of texts -/
def rSortT (w : World) : List V → Hp → VK → Prop := fun vs H Q => ∃ (a : Addr) (zs : List Str), vs = [V.ref a] ∧ H a = some (TSetO w a zs) ∧ zs.length ≤ 100000 ∧
  ∀ (ys : List Str) (p : Addr), ys.Perm zs → sortedS ys = true → H p = none → Q (.ref p) (upd H p (.lst (ys.map V.str)))
theorem cr_sortT (hc : X.calm = true) : CallR X (.builtin "sorted") (rSortT X.w) := by
  intro pins s σ H vs us Q I r h
  obtain ⟨a, zs, rfl, ha, hz, q⟩ := h
  rw [Vals.ref1 r]
  refine tset_sorted (tsetO_get I ha) (I.ok.hd hc) fun s' p out c ys k g o hp hg hS hperm hsrt => ?_
  have hlen : (ys.map V.str).length ≤ sizeLine := by
    rw [List.length_map, hperm.length_eq]
    exact Nat.le_trans hz (by decide)
  have hn : H p = none := I.hok.fresh hp
  have J : Inv X pins σ (upd H p (.lst (ys.map V.str))) { s with heap := s'.heap, gens := s'.gens, drawn := s'.drawn, toks := s'.toks } :=
    I.call (ch := []) (Un.laid k hp hn) (I.hok.laid k hp ⟨hlen, out.toList, c, vals_of_strs hS, hg⟩) (by rw [g]; exact I.bare) (fun _ m => nomatch m)
  have e : s' = { s with heap := s'.heap, gens := s'.gens, drawn := s'.drawn, toks := s'.toks } := by
    cases s'
    cases s
    cases o
    rfl
  rw [e]
  exact ⟨.ref p, _, J, rfl, q ys p hperm hsrt hn⟩
end
end Cs

set_option Elab.async false
set_option linter.all false
set_option maxRecDepth 100000
set_option maxHeartbeats 4000000
/-! {elt for target in iter if ..} where elt is a text. -/
namespace Cs
open PySem PySem.Spec PyProof.Rows L2

/-- one turn of such a comprehension: the text that comes is put into the set at D -/
def tScT (w : World) (wi : TI) (g : TG) (tt : TT) (te : TE) (vs : List Nat) : TE := fun σ H Q => wi σ H fun J H1 => ∀ D, H1 D = none →
  ∃ W : Nat → Nat → Hp → Prop, (∃ m, W 0 m (upd H1 D (TSetO w D []))) ∧ ∀ i m H, W i m H →
  (J.stop i H ∧ Q (.ref D) H) ∨ (J.go i H ∧ ∃ Nx : Hp → Prop, (∀ H', Nx H' → ∃ m', m' < m ∧ W (i + 1) m' H') ∧
    ∀ x H', J.yld i H x H' → g x (wipe σ vs) H' fun σ2 H2 => wipe σ2 vs = wipe σ vs ∧ tt σ2 H2 fun b H3 =>
    if b = true then te σ2 H3 fun y H4 => ∃ (z : Str) (zs : List Str), y = .str z ∧ H4 D = some (TSetO w D zs) ∧ zs.length + 1 < scanBound ∧ Nx (upd H4 D (TSetO w D (addT zs z))) else Nx H3)
section
variable {X : Cx}
theorem scT_core {pins : List (Addr × Obj)} {s : Shared} {σ : L2.St} {H : Hp} {Q : VK} {elt tg iter : Expr} {ifs : List Expr} {scope : Scope} {own : List (PySem.Str × Nat)} {pos pos' : Pos}
    {wi : TI} {g : TG} {tt : TT} {te : TE} {use : Option (Value → Sem Unit)} {Qf : Value → Shared → Prop}
    (hc : X.calm = true) (hN : X.N.Nodup) (I : Inv X pins σ H s) (hi : PI X tg iter wi) (ok : BlkOk X.N X.env.scope scope own)
    (hg : ∀ (s : Shared) (H : Hp) (C : Addr) (cl : List (PySem.Str × Addr)) (fp : List Addr), PG (X.blk s H scope (compEnvC scope cl C X.env) fp) tg g)
    (ht : ∀ (s : Shared) (H : Hp) (C : Addr) (cl : List (PySem.Str × Addr)) (fp : List Addr), PTs (X.blk s H scope (compEnvC scope cl C X.env) fp) ifs tt)
    (he : ∀ (s : Shared) (H : Hp) (C : Addr) (cl : List (PySem.Str × Addr)) (fp : List Addr), PE (X.blk s H scope (compEnvC scope cl C X.env) fp) elt te)
    (hs : ∀ x, foldedSetIterable iter X.env x = pure x) (h : tScT X.w wi g tt te (own.map (·.2)) σ H Q)
    (hRR : ∀ D C s' m H', Inv X pins σ H' s' → Q (.ref D) H' → s'.heap.Ns C m → FpOk X pins H' C → compPost (model X.prog X.w) X.A X.xe use Qf (.ref D) C (.ok .next) s') :
    wpAny (model X.prog X.w) X.A (comprehension (.SetComp elt [⟨tg, iter, ifs, 0⟩] scope pos) scope X.env pos' (newSet (.type "set")) false (eval iter X.env) use) Qf X.xe s := by
  have cells : ∀ y ∈ scope.names, y.2 = .free → ∃ c, X.env.cells.lookup y.1 = some c := fun y hy e => (ok.free y hy e).elim (fun k => I.ok.has _ (.inl k)) fun k => I.ok.has _ (.inr k)
  refine wpAny_comprehension_free (use := use) rfl hs (closure_ok cells) ok.kind (fun y hy e => by rw [ok.uniq y hy, e]) (thn (hi.run pins s σ H _ I h) fun xv sA hx => thn hx fun itv sB hB => ?_)
  obtain ⟨it, fp, tn, J, HB, e, IB, T, stB, fB, q⟩ := hB
  subst e
  refine PpSet.newSet_ok (newEnv_comp ?_)
  generalize hD : sB.heap.objs.size = D
  obtain ⟨W, ⟨m0, w0⟩, turn⟩ := q D (IB.hok.fresh (Nat.le_of_eq hD))
  generalize hsC : ({ sB with heap := sB.heap.push { cls := .type "set", dict := none, data := .set #[] 0 (.fresh 0 0 (!X.w.params.followText "set-order")) } } : Shared) = sC
  have hpC : sC.heap = sB.heap.push { cls := .type "set", dict := none, data := .set #[] 0 (.fresh 0 0 (!X.w.params.followText "set-order")) } := by rw [← hsC]
  generalize hHC : upd HB D (TSetO X.w D []) = HC at w0
  have IC : Inv X pins σ HC sC := by
    rw [← hsC, ← hHC]
    refine IB.laid (t' := sB.toks) (fun b o e => Heap.get?_push_of_some _ e) (Nat.le_of_eq hD) ?_
    rw [← hD]
    exact tsetO_new (tset_fresh X.w)
  have below : ∀ b ∈ fp, b < sB.heap.objs.size := fun b hb => (T.obj _ _ stB b hb).elim fun o z => Heap.lt_size z.1
  have fC : ∀ b ∈ fp, FpOk X pins HC b ∧ b < sC.heap.objs.size := fun b hb => by
    have lt := below b hb
    refine ⟨⟨?_, (fB b hb).2⟩, by rw [hpC, Heap.size_push]; exact Nat.lt_succ_of_lt lt⟩
    rw [← hHC, upd_ne (by rw [← hD]; exact Nat.ne_of_lt lt)]
    exact (fB b hb).1
  have stC : tn 0 sC.heap := T.keep _ _ _ stB fun b _ o e => by rw [hpC]; exact Heap.get?_push_of_some _ e
  have IK := block_start IC ok hN fC
  show codeAny _ _ (.compStart (.SetComp elt [⟨tg, iter, ifs, 0⟩] scope pos) 0 (.ref it) (.ref D) (compEnvC scope (cellsFrom (sC.heap.objs.size + 1) scope.names (cloFrom X.env.cells scope.names [])) sC.heap.objs.size X.env))
    (compPost (model X.prog X.w) X.A X.xe use Qf (.ref D) sC.heap.objs.size) { sC with heap := pushCells (sC.heap.push { cls := .type "dict", data := .dict #[] }) scope.names }
  generalize cellsFrom (sC.heap.objs.size + 1) scope.names (cloFrom X.env.cells scope.names []) = cl at IK ⊢
  have pg := hg sC HC sC.heap.objs.size cl fp
  have pt := ht sC HC sC.heap.objs.size cl fp
  have pe := he sC HC sC.heap.objs.size cl fp
  have nC : ∀ b ∈ fp, HC b = none := fun b hb => (fC b hb).1.1
  generalize hce : compEnvC scope cl sC.heap.objs.size X.env = ce at IK pg pt pe ⊢
  have locals : ce.locals = sC.heap.objs.size := by subst hce; rfl
  generalize hsK : ({ sC with heap := pushCells (sC.heap.push { cls := .type "dict", data := .dict #[] }) scope.names } : Shared) = sK at IK ⊢
  have stK : tn 0 sK.heap := T.keep _ _ _ stC fun b _ o e => by rw [← hsK]; exact pushCells_keeps _ _ _ _ (Heap.get?_push_of_some _ e)
  have stand : ∀ {σ' : L2.St} {H' : Hp} {s' : Shared}, Inv (X.blk sC HC scope ce fp) [] σ' H' s' → (∀ b ∈ fp, H' b = none) → ∀ b ∈ fp, FpOk (X.blk sC HC scope ce fp) [] H' b := fun {σ' H' s'} I' hn b hb =>
    ⟨hn b hb, (I'.ok.exf b hb).1, I'.ok.exfs b hb, .inl hb, fun x c e => (I'.ok.exf b hb).2 x c e, fun p hp => absurd (show p ∈ ([] : List (Addr × Obj)) ++ [] from hp) (by simp)⟩
  have loop : codeAny (model X.prog X.w) X.A (.compLoop (.SetComp elt [⟨tg, iter, ifs, 0⟩] scope pos) 0 (.ref it) (.ref D) ce) (compPost (model X.prog X.w) X.A X.xe use Qf (.ref D) sC.heap.objs.size) sK := by
    refine PpSet.compLoopS_any (fun n s' => ∃ i H', Inv (X.blk sC HC scope ce fp) [] (wipe σ (own.map (·.2))) H' s' ∧ tn i s'.heap ∧ (∀ b ∈ fp, H' b = none) ∧ W i n H') ?_ m0 ⟨0, HC, IK, stK, nC, w0⟩
    rintro n sL ⟨i, HL, IL, stL, nL, wL⟩
    rcases turn i n HL wL with ⟨stop, qq⟩ | ⟨go, Nx, hNx, step⟩
    · refine thnF (T.done (X.blk sC HC scope ce fp) rfl rfl rfl hc i [] sL _ HL (fun _ _ => False) IL (stand IL nL) stL stop) fun r sM ⟨hr, IM⟩ => ?_
      subst hr
      have IX : Inv X pins σ HL sM := IC.call' (ch := fp) IM.os IM.base IM.hok IM.bare fun b hb => ⟨(fC b hb).1.2.2.2.1, (fC b hb).1.2.1, (fC b hb).1.2.2.2.2.1, (fC b hb).1.2.2.2.2.2⟩
      have nl : HL sC.heap.objs.size = none := by
        have z : HL ce.locals = none := IM.free
        rw [locals] at z
        exact z
      obtain ⟨m, hn, _⟩ := IM.loc
      have hn : sM.heap.Ns ce.locals m := hn
      rw [locals] at hn
      exact hRR D sC.heap.objs.size sM m HL IX qq hn (IC.fpOk (Nat.le_refl _) nl)
    · refine thnF (T.item (X.blk sC HC scope ce fp) rfl rfl rfl hc i [] sL _ HL (fun _ _ => False) IL (stand IL nL) stL go) fun r sM ⟨u, hr, hM⟩ => ?_
      subst hr
      refine thnF hM fun _ sN ⟨x, HN, IN, rN, yN, stN, nN⟩ => ?_
      have INp := IN.pinned (stand IN nN) (T.obj _ _ stN)
      refine thnF (pg.run _ sN _ HN x u _ INp rN (step x HN yN)) fun _ sO ⟨σO, HO_, IO_, hwO, qO⟩ => ?_
      refine thnF (pt.run _ sO σO HO_ _ IO_ qO) fun b sP ⟨HP, IP, qP⟩ => ?_
      have fin : ∀ {s' : Shared} {H' : Hp}, Inv (X.blk sC HC scope ce fp) ([] ++ pinsAt fp sN.heap) σO H' s' → Nx H' →
          ∃ m, m < n ∧ ∃ i H', Inv (X.blk sC HC scope ce fp) [] (wipe σ (own.map (·.2))) H' s' ∧ tn i s'.heap ∧ (∀ b ∈ fp, H' b = none) ∧ W i m H' := fun {s' H'} I' nx => by
        obtain ⟨m', hm, w'⟩ := hNx H' nx
        have kept : ∀ b ∈ fp, ∀ o, sN.heap.get? b = some o → s'.heap.get? b = some o ∧ H' b = none := fun b hb o e =>
          let z := I'.pin (b, o) (List.mem_append_right _ (List.mem_append_right _ (mem_pinsAt hb e)))
          ⟨z.1, z.2.1⟩
        refine ⟨m', hm, i + 1, H', (I'.unpinned (pins := [])).weak (by rw [← hwO, wipe_length]) (fun j v e => ?_), T.keep _ _ _ stN fun b hb o e => (kept b hb o e).1, fun b hb => ?_, w'⟩
        · rw [← hwO] at e
          exact (wipe_some e).1
        · exact (T.obj _ _ stN b hb).elim fun o z => (kept b hb o z.1).2
      cases b with
      | false =>
        simp only [Bool.false_eq_true, if_false] at qP ⊢
        exact fin IP qP
      | true =>
        simp only [if_true] at qP ⊢
        refine thnF (pe.run _ sP σO HP _ IP qP) fun v sQ ⟨yv, HQ, IQ, rQ, z, zs, ey, hDQ, hzQ, nx⟩ => ?_
        subst ey
        obtain ⟨tk, rfl⟩ : ∃ tk, v = Value.str z tk := rQ
        exact tsetO_add (X := X.blk sC HC scope ce fp) IQ hDQ hzQ fun sR IR => fin IR nx
  exact PpSet.codeAny_compStart_set loop (T.self X.A 0 _ _ _ stK loop)
theorem pe_scT {elt tg iter : Expr} {ifs : List Expr} {scope : Scope} {own : List (PySem.Str × Nat)} {pos : Pos} {wi : TI} {g : TG} {tt : TT} {te : TE} (hc : X.calm = true) (hN : X.N.Nodup) (hi : PI X tg iter wi)
    (ok : BlkOk X.N X.env.scope scope own)
    (hg : ∀ (s : Shared) (H : Hp) (C : Addr) (cl : List (PySem.Str × Addr)) (fp : List Addr), PG (X.blk s H scope (compEnvC scope cl C X.env) fp) tg g)
    (ht : ∀ (s : Shared) (H : Hp) (C : Addr) (cl : List (PySem.Str × Addr)) (fp : List Addr), PTs (X.blk s H scope (compEnvC scope cl C X.env) fp) ifs tt)
    (he : ∀ (s : Shared) (H : Hp) (C : Addr) (cl : List (PySem.Str × Addr)) (fp : List Addr), PE (X.blk s H scope (compEnvC scope cl C X.env) fp) elt te)
    (hs : ∀ x, foldedSetIterable iter X.env x = pure x := by intro _; rfl) : PE X (.SetComp elt [⟨tg, iter, ifs, 0⟩] scope pos) (tScT X.w wi g tt te (own.map (·.2))) := by
  refine ⟨fun pins s σ H Q I h => ?_⟩
  rw [PpSet.eval_SetComp]
  refine scT_core hc hN I hi ok hg ht he hs h fun D C s' m H' I' q hn f => ⟨m, hn, fun h'' sb => ?_⟩
  obtain ⟨f0, f1, f2, f3, f4, f5⟩ := f
  exact ⟨.ref D, H', I'.turned (t' := s'.toks) (fun b o hb e => (sb.2 b hb).trans e) f0 f1 f3 f4 f5, rfl, q⟩
end
/-- the texts of a list, each once, by first place -/
def once (zs : List Str) : List Str := zs.foldl addT []
theorem once_snoc (zs : List Str) (z : Str) : once (zs ++ [z]) = addT (once zs) z := by
  unfold once
  rw [List.foldl_append]
  rfl
theorem once_len (zs : List Str) : (once zs).length ≤ zs.length := by
  have h : ∀ (l acc : List Str), (l.foldl addT acc).length ≤ acc.length + l.length := by
    intro l
    induction l with
    | nil => intro acc; exact Nat.le_refl _
    | cons z l ih =>
      intro acc
      have e := ih (addT acc z)
      have f : (addT acc z).length ≤ acc.length + 1 := by
        unfold addT
        split
        · omega
        · simp
      show (l.foldl addT (addT acc z)).length ≤ _
      rw [List.length_cons]
      omega
  have := h zs []
  simpa [once] using this
theorem once_mem (zs : List Str) (y : Str) : y ∈ once zs ↔ y ∈ zs := by
  have h : ∀ (l acc : List Str), y ∈ l.foldl addT acc ↔ y ∈ acc ∨ y ∈ l := by
    intro l
    induction l with
    | nil => intro acc; simp
    | cons z l ih =>
      intro acc
      show y ∈ l.foldl addT (addT acc z) ↔ _
      rw [ih]
      unfold addT
      split
      · rename_i m
        simp only [List.mem_cons]
        constructor
        · rintro (a | a)
          · exact .inl a
          · exact .inr (.inr a)
        · rintro (a | a | a)
          · exact .inl a
          · exact .inl (a ▸ m)
          · exact .inr a
      · simp only [List.mem_append, List.mem_cons, List.not_mem_nil, or_false, or_assoc]
  simpa [once] using h zs []
theorem once_nodup (zs : List Str) : (once zs).Nodup := by
  have h : ∀ (l acc : List Str), acc.Nodup → (l.foldl addT acc).Nodup := by
    intro l
    induction l with
    | nil => intro acc h; exact h
    | cons z l ih =>
      intro acc h
      refine ih _ ?_
      unfold addT
      split
      · exact h
      · rename_i m
        exact nd_snoc h m
  exact h zs [] .nil
end Cs

set_option Elab.async false
set_option linter.all false
set_option maxRecDepth 100000
set_option maxHeartbeats 4000000
/-! Plain laws: texts in order, tables of words and integers, what is told of a table. -/
namespace Cs
open PySem L2 PyProof.Rows
/-! ### the order of texts -/
def SLt (a b : Str) : Prop := a.cps.toList < b.cps.toList
theorem slt_irrefl (a : Str) : ¬ SLt a a := List.lt_irrefl _
theorem slt_trans {a b c : Str} (h : SLt a b) (k : SLt b c) : SLt a c := List.lt_trans h k
theorem str_ext {a b : Str} (h : a.cps.toList = b.cps.toList) : a = b := by
  cases a
  cases b
  congr
  exact Array.toList_inj.mp h
theorem slt_total {a b : Str} (h : ¬ SLt b a) (n : a ≠ b) : SLt a b := by
  have h1 : a.cps.toList ≤ b.cps.toList := List.not_lt.mp h
  apply Classical.byContradiction
  intro q
  exact n (str_ext (List.le_antisymm h1 (List.not_lt.mp q)))
theorem slt_of_le_lt {a b c : Str} (h : ¬ SLt b a) (k : SLt b c) : SLt a c := List.lt_of_le_of_lt (List.not_lt.mp h) k
/-- ascending, none twice -/
def Asc (zs : List Str) : Prop := zs.Pairwise SLt
theorem rising_pw : ∀ (r : List Str) (p : Str), risingS p r = true → (p :: r).Pairwise (fun a b => ¬ SLt b a)
  | [], p, _ => List.pairwise_singleton _ _
  | x :: r, p, h => by
    have h : (!PySem.Spec.ltCps x.cps.toList p.cps.toList && risingS x r) = true := h
    rw [Bool.and_eq_true, ltCps_eq] at h
    have ih := rising_pw r x h.2
    have h1 : ¬ SLt x p := by
      have := h.1
      intro q
      rw [decide_eq_true (show x.cps.toList < p.cps.toList from q)] at this
      cases this
    refine List.pairwise_cons.mpr ⟨fun y hy => ?_, ih⟩
    rcases List.mem_cons.mp hy with e | e
    · rw [e]
      exact h1
    · have h2 := (List.pairwise_cons.mp ih).1 y e
      exact fun q => h1 (slt_of_le_lt h2 q)
theorem sorted_pw : ∀ {zs : List Str}, sortedS zs = true → zs.Pairwise (fun a b => ¬ SLt b a)
  | [], _ => .nil
  | x :: r, h => rising_pw r x h
theorem asc_of_sorted {zs : List Str} (h : sortedS zs = true) (n : zs.Nodup) : Asc zs := by
  have a := sorted_pw h
  have b : zs.Pairwise (fun a b => ¬ SLt b a ∧ a ≠ b) := a.and n
  exact b.imp fun h => slt_total h.1 h.2
theorem Asc.nodup {zs : List Str} (h : Asc zs) : zs.Nodup := h.imp fun {a b} (q : SLt a b) (e : a = b) => slt_irrefl a (by rw [← e] at q; exact q)
/-- ascending lists with the same members are one -/
theorem asc_eq : ∀ {xs ys : List Str}, Asc xs → Asc ys → (∀ z, z ∈ xs ↔ z ∈ ys) → xs = ys
  | [], [], _, _, _ => rfl
  | [], y :: ys, _, _, h => absurd ((h y).mpr List.mem_cons_self) (by simp)
  | x :: xs, [], _, _, h => absurd ((h x).mp List.mem_cons_self) (by simp)
  | x :: xs, y :: ys, a, b, h => by
    obtain ⟨a1, a2⟩ := List.pairwise_cons.mp a
    obtain ⟨b1, b2⟩ := List.pairwise_cons.mp b
    have e : x = y := by
      rcases List.mem_cons.mp ((h x).mp List.mem_cons_self) with e | e
      · exact e
      · rcases List.mem_cons.mp ((h y).mpr List.mem_cons_self) with f | f
        · exact f.symm
        · exact absurd (slt_trans (a1 y f) (b1 x e)) (slt_irrefl x)
    subst e
    rw [asc_eq a2 b2 fun z => ?_]
    constructor
    · intro m
      rcases List.mem_cons.mp ((h z).mp (List.mem_cons_of_mem _ m)) with e | e
      · exact absurd (e ▸ a1 z m) (slt_irrefl _)
      · exact e
    · intro m
      rcases List.mem_cons.mp ((h z).mpr (List.mem_cons_of_mem _ m)) with e | e
      · exact absurd (e ▸ b1 z m) (slt_irrefl _)
      · exact e
/-! ### tables -/
abbrev Tab := List (Str × Int)
def keys (t : Tab) : List Str := t.map (·.1)
def look (t : Tab) (z : Str) : Option Int := (t.find? fun q => decide (q.1 = z)).map (·.2)
def val (t : Tab) (z : Str) : Int := (look t z).getD 0
def put (t : Tab) (z : Str) (n : Int) : Tab := if (t.any fun q => decide (q.1 = z)) = true then t.map (fun q => if q.1 = z then (q.1, n) else q) else t ++ [(z, n)]
def drop (t : Tab) (z : Str) : Tab := t.filter fun q => decide (q.1 ≠ z)
theorem look_none : ∀ {t : Tab} {z : Str}, z ∉ keys t → look t z = none
  | [], _, _ => rfl
  | q :: t, z, h => by
    have h1 : q.1 ≠ z := fun e => h (by rw [← e]; exact List.mem_cons_self)
    have h2 : z ∉ keys t := fun m => h (List.mem_cons_of_mem _ m)
    have ih := look_none h2
    unfold look at ih ⊢
    rw [List.find?_cons, decide_eq_false h1]
    exact ih
theorem look_some : ∀ {t : Tab} {z : Str}, z ∈ keys t → ∃ n, look t z = some n ∧ (z, n) ∈ t
  | [], _, h => by simp [keys] at h
  | q :: t, z, h => by
    by_cases e : q.1 = z
    · refine ⟨q.2, ?_, ?_⟩
      · unfold look
        rw [List.find?_cons, decide_eq_true e]
        rfl
      · rw [← e]
        exact List.mem_cons_self
    · have h2 : z ∈ keys t := (List.mem_cons.mp h).resolve_left fun q => e q.symm
      obtain ⟨n, a, b⟩ := look_some h2
      refine ⟨n, ?_, List.mem_cons_of_mem _ b⟩
      unfold look at a ⊢
      rw [List.find?_cons, decide_eq_false e]
      exact a
theorem look_mem {t : Tab} (nd : (keys t).Nodup) {z : Str} {n : Int} (h : (z, n) ∈ t) : look t z = some n := by
  induction t with
  | nil => cases h
  | cons q t ih =>
    obtain ⟨n1, n2⟩ := List.nodup_cons.mp (show (q.1 :: keys t).Nodup from nd)
    rcases List.mem_cons.mp h with e | e
    · subst e
      unfold look
      rw [List.find?_cons, decide_eq_true rfl]
      rfl
    · have h1 : q.1 ≠ z := fun f => n1 (f ▸ List.mem_map.mpr ⟨_, e, rfl⟩)
      have := ih n2 e
      unfold look at this ⊢
      rw [List.find?_cons, decide_eq_false h1]
      exact this
theorem any_keys (t : Tab) (z : Str) : (t.any fun q => decide (q.1 = z)) = decide (z ∈ keys t) := by
  rw [Bool.eq_iff_iff, List.any_eq_true, decide_eq_true_eq]
  constructor
  · rintro ⟨q, m, e⟩
    exact List.mem_map.mpr ⟨q, m, of_decide_eq_true e⟩
  · intro m
    obtain ⟨q, m, e⟩ := List.mem_map.mp m
    exact ⟨q, m, decide_eq_true e⟩
theorem keys_put (t : Tab) (z : Str) (n : Int) : keys (put t z n) = if z ∈ keys t then keys t else keys t ++ [z] := by
  unfold put
  rw [any_keys]
  by_cases h : z ∈ keys t
  · rw [if_pos (decide_eq_true h), if_pos h]
    unfold keys
    rw [List.map_map]
    apply List.map_congr_left
    intro q _
    simp only [Function.comp]
    split <;> rfl
  · rw [if_neg (by simpa using h), if_neg h]
    unfold keys
    rw [List.map_append]
    rfl
theorem mem_keys_put {t : Tab} {z y : Str} {n : Int} : y ∈ keys (put t z n) ↔ y ∈ keys t ∨ y = z := by
  rw [keys_put]
  split
  · rename_i h
    exact ⟨.inl, fun q => q.elim id fun e => e ▸ h⟩
  · rw [List.mem_append, List.mem_singleton]
theorem nd_put {t : Tab} {z : Str} {n : Int} (h : (keys t).Nodup) : (keys (put t z n)).Nodup := by
  rw [keys_put]
  split
  · exact h
  · rename_i m
    exact nd_snoc h m
theorem mem_put {t : Tab} {z y : Str} {n m : Int} (h : (y, m) ∈ put t z n) : (y = z ∧ m = n) ∨ (y ≠ z ∧ (y, m) ∈ t) := by
  unfold put at h
  rw [any_keys] at h
  by_cases k : z ∈ keys t
  · rw [if_pos (decide_eq_true k)] at h
    obtain ⟨q, hq, e⟩ := List.mem_map.mp h
    by_cases c : q.1 = z
    · rw [if_pos c] at e
      left
      exact ⟨by rw [← c]; exact (congrArg Prod.fst e).symm, (congrArg Prod.snd e).symm⟩
    · rw [if_neg c] at e
      right
      subst e
      exact ⟨c, hq⟩
  · rw [if_neg (by simpa using k)] at h
    rcases List.mem_append.mp h with a | a
    · right
      exact ⟨fun e => k (e ▸ List.mem_map.mpr ⟨_, a, rfl⟩), a⟩
    · left
      have := List.mem_singleton.mp a
      exact ⟨congrArg Prod.fst this, congrArg Prod.snd this⟩
theorem look_put {t : Tab} {z y : Str} {n : Int} (h : (keys t).Nodup) : look (put t z n) y = if y = z then some n else look t y := by
  by_cases k : y ∈ keys (put t z n)
  · obtain ⟨m, a, b⟩ := look_some k
    rw [a]
    rcases mem_put b with ⟨e, f⟩ | ⟨e, f⟩
    · rw [if_pos e, f]
    · rw [if_neg e, look_mem h f]
  · rw [look_none k]
    have k2 : ¬ (y ∈ keys t ∨ y = z) := fun q => k (mem_keys_put.mpr q)
    rw [if_neg fun e => k2 (.inr e), look_none fun e => k2 (.inl e)]
theorem val_put {t : Tab} {z y : Str} {n : Int} (h : (keys t).Nodup) : val (put t z n) y = if y = z then n else val t y := by
  unfold val
  rw [look_put h]
  split <;> rfl
theorem keys_drop (t : Tab) (z : Str) : keys (drop t z) = (keys t).filter fun y => decide (y ≠ z) := by
  unfold keys drop
  rw [List.filter_map]
  rfl
theorem nd_drop {t : Tab} {z : Str} (h : (keys t).Nodup) : (keys (drop t z)).Nodup := by
  rw [keys_drop]
  exact h.filter _
theorem look_drop {t : Tab} {z y : Str} (h : (keys t).Nodup) : look (drop t z) y = if y = z then none else look t y := by
  by_cases k : y ∈ keys (drop t z)
  · obtain ⟨m, a, b⟩ := look_some k
    have c := List.mem_filter.mp b
    have d : y ≠ z := of_decide_eq_true c.2
    rw [a, if_neg d, look_mem h c.1]
  · rw [look_none k]
    by_cases e : y = z
    · rw [if_pos e]
    · rw [if_neg e, look_none]
      intro m
      apply k
      rw [keys_drop]
      exact List.mem_filter.mpr ⟨m, decide_eq_true e⟩
theorem val_drop {t : Tab} {z y : Str} (h : (keys t).Nodup) : val (drop t z) y = if y = z then 0 else val t y := by
  unfold val
  rw [look_drop h]
  split <;> rfl
theorem len_put (t : Tab) (z : Str) (n : Int) : (put t z n).length ≤ t.length + 1 := by
  unfold put
  split
  · rw [List.length_map]
    omega
  · rw [List.length_append]
    exact Nat.le_refl _
/-! ### what is told of a table: the words ascending whose integer is not 0 -/
/-- ws holds the table's words, ascending -/
def toldBy (t : Tab) (ws : List Str) : Tab := (ws.filter fun z => decide (val t z ≠ 0)).map fun z => (z, val t z)
/-- l is what is told of a table with these values -/
structure Told (f : Str → Int) (l : Tab) : Prop where
  asc : Asc (keys l)
  mem : ∀ z n, (z, n) ∈ l ↔ n = f z ∧ n ≠ 0
theorem Told.keys_iff {f : Str → Int} {l : Tab} (h : Told f l) (z : Str) : z ∈ keys l ↔ f z ≠ 0 := by
  constructor
  · intro m
    obtain ⟨⟨y, n⟩, hm, e⟩ := List.mem_map.mp m
    have e : y = z := e
    subst e
    obtain ⟨a, b⟩ := (h.mem _ _).mp hm
    rw [← a]
    exact b
  · intro q
    exact List.mem_map.mpr ⟨(z, f z), (h.mem _ _).mpr ⟨rfl, q⟩, rfl⟩
theorem Told.form {f : Str → Int} {l : Tab} (h : Told f l) : l = (keys l).map fun z => (z, f z) := by
  unfold keys
  rw [List.map_map]
  conv => lhs; rw [← List.map_id l]
  apply List.map_congr_left
  intro q m
  have := ((h.mem q.1 q.2).mp m).1
  show q = (q.1, f q.1)
  rw [← this]
theorem told_eq {f g : Str → Int} {l m : Tab} (a : Told f l) (b : Told g m) (h : ∀ z, f z = g z) : l = m := by
  have e : f = g := funext h
  subst e
  have k : keys l = keys m := asc_eq a.asc b.asc fun z => by rw [a.keys_iff, b.keys_iff]
  rw [a.form, b.form, k]
theorem told_of {t : Tab} {ws : List Str} (nd : (keys t).Nodup) (ha : Asc ws) (hm : ∀ z, z ∈ ws ↔ z ∈ keys t) : Told (val t) (toldBy t ws) := by
  have ek : keys (toldBy t ws) = ws.filter fun z => decide (val t z ≠ 0) := by
    unfold keys toldBy
    rw [List.map_map]
    exact List.map_id _
  refine ⟨?_, fun z n => ?_⟩
  · rw [ek]
    exact List.Pairwise.filter _ ha
  · unfold toldBy
    rw [List.mem_map]
    constructor
    · rintro ⟨y, m, e⟩
      have e1 : y = z := congrArg Prod.fst e
      have e2 : val t y = n := congrArg Prod.snd e
      subst e1
      subst e2
      exact ⟨rfl, of_decide_eq_true (List.mem_filter.mp m).2⟩
    · rintro ⟨rfl, q⟩
      refine ⟨z, List.mem_filter.mpr ⟨?_, decide_eq_true q⟩, rfl⟩
      rw [hm]
      apply Classical.byContradiction
      intro k
      exact q (by unfold val; rw [look_none k]; rfl)
/-! ### a table as a dict's pairs -/
def tv (t : Tab) : List (Key × V) := t.map fun q => (Sum.inr q.1, V.int q.2)
theorem tv_len (t : Tab) : (tv t).length = t.length := List.length_map _
theorem tv_val (t : Tab) (z : Str) : valV (tv t) (Sum.inr z) = (look t z).map V.int := by
  unfold valV tv look
  induction t with
  | nil => rfl
  | cons q t ih =>
    rw [List.map_cons, List.find?_cons, List.find?_cons]
    by_cases e : q.1 = z
    · rw [decide_eq_true e, decide_eq_true (show (Sum.inr q.1 : Key) = Sum.inr z by rw [e])]
      rfl
    · rw [decide_eq_false e, decide_eq_false (show ¬ (Sum.inr q.1 : Key) = Sum.inr z from fun f => e (Sum.inr.inj f))]
      exact ih
theorem tv_any (t : Tab) (z : Str) : ((tv t).any fun kv => decide (kv.1 = Sum.inr z)) = t.any fun q => decide (q.1 = z) := by
  unfold tv
  rw [List.any_map]
  congr 1
  funext q
  exact key_rr q.1 z
theorem tv_put (t : Tab) (z : Str) (n : Int) : putK (tv t) (Sum.inr z) (V.int n) = tv (put t z n) := by
  unfold putK put
  rw [tv_any]
  split
  · unfold tv
    rw [List.map_map, List.map_map]
    apply List.map_congr_left
    intro q _
    simp only [Function.comp]
    by_cases e : q.1 = z
    · rw [if_pos e, if_pos (show (Sum.inr q.1 : Key) = Sum.inr z by rw [e])]
    · rw [if_neg e, if_neg (show ¬ (Sum.inr q.1 : Key) = Sum.inr z from fun f => e (Sum.inr.inj f))]
  · unfold tv
    rw [List.map_append]
    rfl
theorem tv_drop (t : Tab) (z : Str) : dropK (tv t) (Sum.inr z) = tv (drop t z) := by
  unfold dropK drop tv
  rw [List.filter_map]
  congr 1
  apply List.filter_congr
  intro q _
  simp only [Function.comp]
  by_cases e : q.1 = z
  · simp [e]
  · have : ¬ (Sum.inr q.1 : Key) = Sum.inr z := fun f => e (Sum.inr.inj f)
    simp [e, this]
/-- pairs added up word by word -/
def addUp (ps : List (Str × Int)) : Tab := ps.foldl (fun t q => put t q.1 (val t q.1 + q.2)) []
/-- the integers of a word in pairs -/
def sumOf (ps : List (Str × Int)) (z : Str) : Int := ((ps.filter fun q => decide (q.1 = z)).map (·.2)).sum
theorem addUp_snoc (ps : List (Str × Int)) (q : Str × Int) : addUp (ps ++ [q]) = put (addUp ps) q.1 (val (addUp ps) q.1 + q.2) := by
  unfold addUp
  rw [List.foldl_append]
  rfl
theorem snoc_rec {α : Type} {C : List α → Prop} (h0 : C []) (h1 : ∀ l a, C l → C (l ++ [a])) : ∀ l, C l := by
  intro l
  have : ∀ n (l : List α), l.length = n → C l := by
    intro n
    induction n with
    | zero => intro l hl; rw [List.length_eq_zero_iff.mp hl]; exact h0
    | succ n ih =>
      intro l hl
      have hne : l ≠ [] := by intro e; rw [e] at hl; cases hl
      rw [← List.dropLast_concat_getLast hne]
      exact h1 _ _ (ih _ (by rw [List.length_dropLast, hl]; rfl))
  exact this _ l rfl
theorem addUp_nd : ∀ ps, (keys (addUp ps)).Nodup := snoc_rec List.nodup_nil fun l a h => by
  rw [addUp_snoc]
  exact nd_put h
theorem addUp_val (z : Str) : ∀ ps, val (addUp ps) z = sumOf ps z := snoc_rec rfl fun l a h => by
  rw [addUp_snoc, val_put (addUp_nd l)]
  unfold sumOf at h ⊢
  rw [List.filter_append, List.map_append, List.sum_append]
  by_cases e : a.1 = z
  · rw [if_pos e.symm]
    subst e
    rw [h]
    simp
  · rw [if_neg fun q => e q.symm, h]
    simp [e]
theorem addUp_len : ∀ ps, (addUp ps).length ≤ ps.length := snoc_rec (Nat.le_refl _) fun l a h => by
  rw [addUp_snoc, List.length_append]
  exact Nat.le_trans (len_put _ _ _) (Nat.succ_le_succ h)
/-- without zeros -/
def noZero (t : Tab) : Tab := t.filter fun q => decide (q.2 ≠ 0)
theorem noZero_nd {t : Tab} (h : (keys t).Nodup) : (keys (noZero t)).Nodup := by
  unfold keys noZero
  exact List.Nodup.sublist ((List.filter_sublist).map _) h
theorem noZero_mem {t : Tab} {q : Str × Int} : q ∈ noZero t ↔ q ∈ t ∧ q.2 ≠ 0 := by
  unfold noZero
  rw [List.mem_filter, decide_eq_true_eq]
theorem noZero_val {t : Tab} (h : (keys t).Nodup) (z : Str) : val (noZero t) z = val t z := by
  unfold val
  by_cases k : z ∈ keys (noZero t)
  · obtain ⟨n, a, b⟩ := look_some k
    rw [a, look_mem h (noZero_mem.mp b).1]
  · rw [look_none k]
    by_cases m : z ∈ keys t
    · obtain ⟨n, a, b⟩ := look_some m
      rw [a]
      by_cases e : n = 0
      · rw [e]
        rfl
      · exact absurd (List.mem_map.mpr ⟨(z, n), noZero_mem.mpr ⟨b, e⟩, rfl⟩) k
    · rw [look_none m]
/-- a table as Counts hold it -/
structure Held (t : Tab) : Prop where
  nd : (keys t).Nodup
  nz : ∀ q ∈ t, q.2 ≠ 0
theorem Held.of {t : Tab} (h : (keys t).Nodup) : Held (noZero t) := ⟨noZero_nd h, fun q m => (noZero_mem.mp m).2⟩
theorem Held.keys_iff {t : Tab} (h : Held t) (z : Str) : z ∈ keys t ↔ val t z ≠ 0 := by
  unfold val
  constructor
  · intro m
    obtain ⟨n, a, b⟩ := look_some m
    rw [a]
    exact h.nz _ b
  · intro q
    apply Classical.byContradiction
    intro m
    rw [look_none m] at q
    exact q rfl
/-- the pairs of held counts, by their words ascending -/
theorem Held.told {t : Tab} (h : Held t) {ws : List Str} (ha : Asc ws) (hm : ∀ z, z ∈ ws ↔ z ∈ keys t) : Told (val t) (ws.map fun z => (z, val t z)) := by
  have := told_of h.nd ha hm
  unfold toldBy at this
  rw [List.filter_eq_self.mpr] at this
  · exact this
  · intro z m
    exact decide_eq_true ((h.keys_iff z).mp ((hm z).mp m))
end Cs

set_option Elab.async false
set_option linter.all false
set_option maxRecDepth 100000
set_option maxHeartbeats 4000000
/-! What an own class's special methods do: len(o), o[i], o[i] = v; classes called with a starred list. -/
namespace Cs
open PySem PySem.Spec PyProof.Rows L2
/-- a special method of the class at C -/
structure Spc (K : PySem.W.Frag) (C : Addr) (m : Str) (f : Addr) : Prop where
  at_ : PySem.W.findIn K (.ref C) m = some (some (.ref f))
  fn : PySem.W.isFn K (.ref f) = true
section
variable {X : Cx} {CX : CXT} {k i : Nat} {f C g : Addr} {fd : FuncData} {ps : List Str} {sp : Sp} {dvs : List V} {ds : List Value} {E : XK} {x m : Str} {e o : Expr} {es : List Expr} {te ta : TE} {t : TA} {p sp_ pos apos : Pos}
/-- a def run one level down -/
theorem run_fn1 {pins : List (Addr × Obj)} {σ : L2.St} {H : Hp} {s : Shared} {Q : VK} {us : List Value} {vs : List V} (F : FnOk X.prog X.w X.K X.mg X.base CX k f fd ps sp) (hr : Room (k + 1) X.A) (hb : Binds X.K fd ps []) (hx : Passes CX X E)
    (I : Inv X pins σ H s) (r : Vals vs us) (h : sp vs H Q E) : wpAny (model X.prog X.w) X.A.in1 (call (.ref f) us) (EP X pins σ Q) X.xe s := by
  have hl : us.length = ps.length := by rw [← r.length]; exact F.len _ _ _ _ h
  have hb' := hb s us I.kIn (by rw [List.append_nil]; exact hl)
  rw [List.append_nil] at hb'
  refine wpAny_call (codeAny_mono (F.run X.A.in1 X.stack s H ⟨us, []⟩ us vs Q E hr.in1 I.env0.in1 hb' r h) fun r s' hq => ?_)
  cases r with
  | error e => exact hx pins σ H s e s' I hq
  | ok fl =>
    cases fl with
    | ret u => exact I.after hq
    | next => exact False.elim hq
    | brk => exact False.elim hq
    | cont => exact False.elim hq
theorem ins_inst {pins : List (Addr × Obj)} {σ : L2.St} {H : Hp} {s : Shared} {a dx : Addr} {fs : List (Str × V)} (I : Inv X pins σ H s) (h : H a = some (.ins C dx fs)) : ∃ ox od, PySem.W.InstAt s.heap a ox C od ∧ ox.data = .plain := by
  obtain ⟨mA, O, _⟩ := ins_get I.hok h
  obtain ⟨od, J, _⟩ := O.look
  exact ⟨_, _, J, rfl⟩
/-- len(o) by an own __len__ -/
def rLenO (C : Addr) (sp : Sp) (E : XK) : List V → Hp → VK → Prop := fun xs H Q => ∃ a dx fs, xs = [.ref a] ∧ H a = some (.ins C dx fs) ∧ sp [.ref a] H (fun v H2 => ∃ n : Int, v = .int n ∧ (0 ≤ n ∧ n < 2 ^ 63) ∧ Q (.int n) H2) E
theorem call_lenO (c : Spc X.K C "__len__" f) (F : FnOk X.prog X.w X.K X.mg X.base CX k f fd ps sp) (hr : Room (k + 1) X.A) (hb : Binds X.K fd ps []) (hx : Passes CX X E) : CallR X (.builtin "len") (rLenO C sp E) := by
  intro pins s σ H xs us Q I r h
  obtain ⟨a, dx, fs, rfl, ha, q⟩ := h
  rw [Vals.ref1 r]
  obtain ⟨ox, od, J, _⟩ := ins_inst I ha
  obtain ⟨m, Fr⟩ := I.fr
  refine PySem.W.len_K Fr I.ok.mod.kin J c.at_ c.fn (wpAny_mono (run_fn1 (us := [.ref a]) (vs := [.ref a]) F hr hb hx I (.cons rfl .nil) q) (fun v s' z => ?_) fun _ _ z => z)
  obtain ⟨v0, H2, I2, rv, n, e, hn, q2⟩ := z
  subst e
  obtain ⟨tk, rfl⟩ := rv
  exact ⟨hn, .int n, H2, I2.tok _, ⟨_, rfl⟩, q2⟩
/-- o[i] = v by an own __setitem__ -/
def rSetO (C : Addr) (sp : Sp) (E : XK) : V → V → V → Hp → (Hp → Prop) → Prop := fun o i v H Q => ∃ a dx fs, o = .ref a ∧ H a = some (.ins C dx fs) ∧ sp [.ref a, i, v] H (fun _ H2 => Q H2) E
theorem set_own (c : Spc X.K C "__setitem__" f) (hq : PySem.W.noSeq X.K C = true) (F : FnOk X.prog X.w X.K X.mg X.base CX k f fd ps sp) (hr : Room k X.A) (hb : Binds X.K fd ps []) (hx : Passes CX X E) : PSet X (rSetO C sp E) := by
  intro pins s σ H o i v ov iv u Q I ro ri rv h
  obtain ⟨a, dx, fs, rfl, ha, q⟩ := h
  cases ro
  obtain ⟨ox, od, J, _⟩ := ins_inst I ha
  obtain ⟨m, Fr⟩ := I.fr
  refine PySem.W.ksp_setItem Fr I.ok.mod.kin J hq c.at_ c.fn ?_
  refine wpAny_mono (run_fn (us := [.ref a, iv, u]) (vs := [.ref a, i, v]) (dvs := []) F hr hb .nil hx I (.cons rfl (.cons ri (.cons rv .nil))) q) (fun v s' z => ?_) fun _ _ z => z
  obtain ⟨v0, H2, I2, _, q2⟩ := z
  exact ⟨H2, I2, q2⟩
/-- C(*y), C a class of the module -/
def tMkS (K : PySem.W.Frag) (C : Addr) (sp : Sp) (E : XK) (te : TE) : TE := fun σ H Q => te σ H fun y H1 => ∃ a xs, y = V.ref a ∧ (SqT K H1 a xs ∨ SqL K H1 a xs) ∧ ∀ x dx, H1 x = none → H1 dx = none → dx ≠ x →
  sp (V.ref x :: xs) (upd (upd H1 dx (.own x)) x (.ins C dx [])) (fun v H2 => v = .non ∧ Q (.ref x) H2) E
theorem pe_mkS (M : Mk X.K C f) (F : FnR X.prog X.w X.K X.mg X.base CX k f sp) (hr : Room (k + 1) X.A) (hg : Gl X x) (hm : X.mg x = some (.ref C)) (hx : Passes CX X E) (he : PE X e te) (hd : (x == ("__debug__" : Str)) = false := by decide)
    (hst : starEach [.Starred e sp_] X.env = [(true, eval e X.env)] := by rfl) : PE X (.Call (.Name x p) [.Starred e sp_] [] pos) (tMkS X.K C sp E te) := by
  refine ⟨fun pins s σ H Q I h => ?_⟩
  refine wpAny_Call_Name_kw (ld_glob I hg hm ?_ hd)
  refine PySem.W.callWith_S (h₀ := X.base) I.ok.mod.kin M.kp (thn (he.run pins s σ H _ I h) fun v s1 ⟨y, H1, I1, ry, a, xs, ey, hxs, q⟩ => ?_) hst
  subst ey
  obtain rfl : v = Value.ref a := ry
  exact StX.star_any I1 hxs fun us s2 I2 rv => ⟨I2.kIn, StX.run_makeR M F hr hx I2 rv q⟩
/-- c(*y), c a local name that holds the class -/
theorem pe_mkSL (M : Mk X.K C f) (F : FnR X.prog X.w X.K X.mg X.base CX k f sp) (hr : Room (k + 1) X.A) (hN : X.N[i]? = some x) (hv : Vis X.env.scope x) (hx : Passes CX X E) (he : PE X e te) (hdb : (x == ("__debug__" : Str)) = false := by decide)
    (hcd : (x == ("__classdict__" : Str)) = false := by decide) (hst : starEach [.Starred e sp_] X.env = [(true, eval e X.env)] := by rfl) :
    PE X (.Call (.Name x p) [.Starred e sp_] [] pos) (fun σ H Q => σ[i]? = some (some (.ref C)) ∧ tMkS X.K C sp E te σ H Q) := by
  refine ⟨fun pins s σ H Q I h => ?_⟩
  obtain ⟨hs, h⟩ := h
  refine wpAny_Call_Name_kw (thn ((pe_var (pos := p) hN hv hdb hcd).run pins s σ H (fun v H1 => v = .ref C ∧ H1 = H) I ⟨.ref C, hs, rfl, rfl⟩) fun u s0 ⟨v, H0, I0, r0, q0⟩ => ?_)
  obtain ⟨rfl, rfl⟩ := q0
  cases r0
  refine PySem.W.callWith_S (h₀ := X.base) I.ok.mod.kin M.kp (thn (he.run pins s0 σ _ _ I0 h) fun v s1 ⟨y, H1, I1, ry, a, xs, ey, hxs, q⟩ => ?_) hst
  subst ey
  obtain rfl : v = Value.ref a := ry
  exact StX.star_any I1 hxs fun us s2 I2 rv => ⟨I2.kIn, StX.run_makeR M F hr hx I2 rv q⟩
/-- C(), by a positional promise -/
theorem pe_mkR0 (M : Mk X.K C f) (F : FnR X.prog X.w X.K X.mg X.base CX k f sp) (hr : Room (k + 1) X.A) (hg : Gl X x) (hm : X.mg x = some (.ref C)) (hx : Passes CX X E) (hdb : (x == ("__debug__" : Str)) = false := by decide) :
    PE X (.Call (.Name x p) [] [] pos) (StX.tMakeR C sp E tNil) := by
  refine ⟨fun pins s σ H Q I h => ?_⟩
  refine wpAny_Call_Name_kw (ld_glob I hg hm ?_ hdb)
  exact PySem.W.callWith_K0 I.kIn M.kp (StX.run_makeR (us := []) M F hr hx I .nil h)
/-- o.m() by a positional promise -/
theorem pe_methR0 {pl : Sem Bool} (he : PE X o ta) (c : Cls X.K C) (hm : Meth X.K C m f) (F : FnR X.prog X.w X.K X.mg X.base CX k f sp) (hr : Room k X.A) (hx : Passes CX X E)
    (ht : eval (.Call (.Attribute o m apos) [] [] pos) X.env = (do
      let ov ← eval o X.env
      standAt apos.atName
      let (f, first) ← holding [ov] (getMethod ov m pl)
      callWith pos f first (backTo pos (starEach [] X.env)) (backToKw pos (keywordEach [] X.env))) := by rfl) :
    PE X (.Call (.Attribute o m apos) [] [] pos) (tMethR C m sp E ta tNil) := by
  refine ⟨fun pins s σ H Q I h => ?_⟩
  refine PySem.W.methodCall_KW (pl := pl) (thn (he.run pins s σ H _ I h) fun u s1 ⟨x, H1, I1, rx, a, dx, fs, ex, ea, l, q⟩ => ?_) ht
  subst ex
  obtain rfl : u = Value.ref a := rx
  refine getmeth_ok I1 ea c hm l ?_
  exact PySem.W.callWith_K0 (first := [.ref a]) I1.kIn hm.kp (wpAny_call (run_fnR (us := [.ref a]) (vs := [.ref a]) F hr hx I1 (.cons rfl .nil) q))
end
end Cs

set_option Elab.async false
set_option linter.all false
set_option maxRecDepth 100000
set_option maxHeartbeats 4000000
/-! Operators of an own class: + - * & | ^ and the like, unary minus, abs, comparisons, op=, o[i]. -/
namespace Cs
open PySem PySem.Spec PyProof.Rows L2
/-- no value of the layer is NotImplemented -/
theorem back_of {X : Cx} {pins : List (Addr × Obj)} {σ : L2.St} {Q : VK} {u : Value} {s : Shared} (h : EP X pins σ Q u s) : PySem.W.CmpBack (EP X pins σ Q) u s := by
  obtain ⟨v, H', I, r, q⟩ := id h
  cases u <;> first | exact h | (cases v <;> first | (obtain ⟨_, z⟩ := r; cases z; done) | (exact absurd r (by intro z; cases z)))
section
variable {X : Cx} {CX : CXT} {k i : Nat} {f C g : Addr} {fd : FuncData} {ps : List Str} {sp : Sp} {E : XK} {a b : Expr} {ta tb : TE} {pos : Pos} {op : Operator}
/-- the class comes first in its own order -/
structure OpC (K : PySem.W.Frag) (C : Addr) (m : Str) (f : Addr) : Prop where
  sf : PySem.W.selfFirst K C = true
  at_ : PySem.W.findIn K (.ref C) m = some (some (.ref f))
  fn : PySem.W.isFn K (.ref f) = true
/-- x op y, both of the class -/
def rBinO (C : Addr) (sp : Sp) (E : XK) : R2 := fun x y H Q => ∃ p q dp dq fp fq, x = .ref p ∧ y = .ref q ∧ H p = some (.ins C dp fp) ∧ H q = some (.ins C dq fq) ∧ sp [.ref p, .ref q] H Q E
theorem op_own (c : OpC X.K C (PySem.dunder op.info.2) f) (F : FnOk X.prog X.w X.K X.mg X.base CX k f fd ps sp) (hr : Room k X.A) (hb : Binds X.K fd ps []) (hx : Passes CX X E) : OpR X (binaryOp op) (rBinO C sp E) := by
  intro pins s σ H x y v u Q I rx ry h
  obtain ⟨p, q, dp, dq, fp, fq, rfl, rfl, hp, hq, k⟩ := h
  cases rx
  cases ry
  obtain ⟨ox, od, J, _⟩ := ins_inst I hp
  obtain ⟨oy, oe, J2, _⟩ := ins_inst I hq
  obtain ⟨m, Fr⟩ := I.fr
  refine PySem.W.binop_K Fr I.ok.mod.kin J J2.type c.sf c.at_ c.fn ?_
  exact wpAny_mono (run_fn (us := [.ref p, .ref q]) (vs := [.ref p, .ref q]) (dvs := []) F hr hb .nil hx I (.cons rfl (.cons rfl .nil)) k) (fun v s' z => back_of z) fun _ _ z => z
/-- x op n, x of the class, n an int -/
def rBinI (C : Addr) (sp : Sp) (E : XK) : R2 := fun x y H Q => ∃ p dp fp n, x = .ref p ∧ y = .int n ∧ H p = some (.ins C dp fp) ∧ sp [.ref p, .int n] H Q E
structure OpT (K : PySem.W.Frag) (C : Addr) (nm : String) (f g : Addr) : Prop where
  sf : PySem.W.selfFirst K C = true
  at_ : PySem.W.findIn K (.ref C) (PySem.dunder nm) = some (some (.ref f))
  fn : PySem.W.isFn K (.ref f) = true
  rat : PySem.W.findIn K (.ref C) (dunderR nm) = some (some (.ref g))
  rfn : PySem.W.isFn K (.ref g) = true
  sub : PySem.W.subIn K (.type "int") (.ref C) = some false
  sub2 : PySem.W.subIn K (.ref C) (.type "int") = some false
theorem op_ownI {fo ro : Option Value} (c : OpT X.K C op.info.2 f g) (h1 : PySem.W.findIn X.K (.type "int") (PySem.dunder op.info.2) = some fo) (h2 : PySem.W.findIn X.K (.type "int") (dunderR op.info.2) = some ro)
    (F : FnOk X.prog X.w X.K X.mg X.base CX k f fd ps sp) (hr : Room k X.A) (hb : Binds X.K fd ps []) (hx : Passes CX X E) : OpR X (binaryOp op) (rBinI C sp E) := by
  intro pins s σ H x y v u Q I rx ry h
  obtain ⟨p, dp, fp, n, rfl, rfl, hp, k⟩ := h
  cases rx
  obtain ⟨t, rfl⟩ := ry
  obtain ⟨ox, od, J, _⟩ := ins_inst I hp
  obtain ⟨m, Fr⟩ := I.fr
  refine PySem.W.ksp_binT (T := "int") (b := .int n t) Fr I.ok.mod.kin J rfl c.sf c.at_ c.fn c.rat (.inr ⟨g, rfl⟩) h1 h2 c.sub ?_
  exact wpAny_mono (run_fn (us := [.ref p, .int n t]) (vs := [.ref p, .int n]) (dvs := []) F hr hb .nil hx I (.cons rfl (.cons ⟨t, rfl⟩ .nil)) k) (fun v s' z => back_of z) fun _ _ z => z
/-- int.__mul__ of an object that is no int -/
theorem mul_other {prog : Program} {w : World} {A : Around} {E : Value → Shared → Prop} {s : Shared} {x : Addr} {o : Obj} {n : Int} {t : Tok} {Q : Option Value → Shared → Prop} (ho : s.heap.get? x = some o) (hd : o.data = .plain) (h : Q none s) :
    wpAny (model prog w) A (tryMethod (.int n t) (PySem.dunder "mul") (.ref x)) Q E s := by
  unfold tryMethod
  refine wpAny_bind (PySem.wpAny_callSpecial?_slot (typeIs_int s n t) PySem.F.slot_int_mul (wpAny_call_entry PySem.F.slot_int_mul (typeIs_int s n t) PySem.F.entry_int_mul ?_ (PySem.F.args_int_mul_2 _ _)))
  unfold Builtin.«int.__mul__»
  obtain ⟨hp, gg, d, tk, os⟩ := s
  obtain ⟨cls, dict, data, slots⟩ := o
  subst hd
  have ho1 := ho
  wp_walk using wpAny_load ho1
  exact ⟨_, rfl, wpAny_pure h⟩
/-- n * x, x of the class: by its own __rmul__ -/
theorem mul_right {prog : Program} {w : World} {A : Around} {E : Value → Shared → Prop} {s : Shared} {K : PySem.W.Frag} {x : Addr} {ox : Obj} {od : Option Obj} {n : Int} {t : Tok} {Q : Value → Shared → Prop} {ro : Option Value} (X : K.In s.heap) (I : PySem.W.InstAt s.heap x ox C od) (hd : ox.data = .plain)
    (hx : s.heap.get? x = some ox) (c : OpT K C "mul" f g) (h1 : PySem.W.findIn K (.type "int") (PySem.dunder "mul") = some (some (.builtin "int.__mul__"))) (h2 : PySem.W.findIn K (.type "int") (dunderR "mul") = some ro)
    (h : wpAny (model prog w) A (call (.ref g) [.ref x, .int n t]) (PySem.W.CmpBack Q) E s) : wpAny (model prog w) A (binaryOp .Mult (.int n t) (.ref x)) Q E s := by
  obtain ⟨cd, rest, hcd, hm⟩ := PySem.W.ksp_first c.sf
  have one := PySem.W.ksp_try X I c.rat c.rfn h
  have oth := fun Q' (q : Q' none s) => mul_other (prog := prog) (w := w) (A := A) (E := E) (n := n) (t := t) (Q := Q') hx hd q
  have L1 : PySem.W.Looks (model prog w) s.heap (typeOf (.int n t)) (.type "int") := PySem.W.Looks.of_pure rfl
  have L2 : PySem.W.Looks (model prog w) s.heap (typeOf (.ref x)) (.ref C) := I.type
  have L3 : PySem.W.Looks (model prog w) s.heap (fillsNumberSlot (.type "int") "mul") true := by
    have := PySem.W.ksp_fillsT (M := model prog w) X h1 h2
    exact this
  have L4 : PySem.W.Looks (model prog w) s.heap (fillsNumberSlot (.ref C) "mul") true := PySem.W.fills_K X hcd hm c.at_
  have L5 : PySem.W.Looks (model prog w) s.heap (isSubtype (.ref C) (.type "int")) false := PySem.W.looks_subIn X c.sub2
  have L6 : PySem.W.Looks (model prog w) s.heap (numberSlotInPython (.type "int") "mul") false := PySem.W.Looks.of_pure rfl
  have hne : (Value.type "int" == Value.ref C) = false := Bool.eq_false_iff.mpr fun q => by cases beq_iff_eq.mp q
  have hi : Operator.Mult.info.2 = "mul" := rfl
  simp only [binaryOp]
  refine wpAny_holding (wpAny_bind ?_)
  rw [hi]
  unfold binaryOp1
  refine wpAny_bind (L1.here (wpAny_bind (L2.here (wpAny_bind (L3.here ?_)))))
  simp only [hne, Bool.false_eq_true, if_false]
  refine wpAny_bind (L4.here ?_)
  simp only [Bool.and_self, if_true, Bool.true_and, Bool.not_false]
  refine wpAny_bind (L5.here ?_)
  simp only [Bool.false_eq_true, if_false, Bool.not_false, if_true]
  refine wpAny_bind (L6.here ?_)
  simp only [Bool.false_eq_true, if_false]
  refine wpAny_bind (oth _ ?_)
  dsimp only
  refine wpAny_bind (wpAny_mono one (fun r s' z => ?_) fun _ _ e => e)
  obtain ⟨v, rfl, hq⟩ := z
  exact wpAny_bind (wpAny_rule (wpAny_pure (wpAny_pure hq)))
end
end Cs

set_option Elab.async false
set_option linter.all false
set_option maxRecDepth 100000
set_option maxHeartbeats 4000000
namespace Cs
open PySem PySem.Spec PyProof.Rows L2
section
variable {X : Cx} {CX : CXT} {k i : Nat} {f C g : Addr} {fd : FuncData} {ps : List Str} {sp : Sp} {E : XK} {a b : Expr} {ta tb : TE} {pos : Pos} {op : Operator}
theorem ins_obj {pins : List (Addr × Obj)} {σ : L2.St} {H : Hp} {s : Shared} {p dx : Addr} {fs : List (Str × V)} (I : Inv X pins σ H s) (h : H p = some (.ins C dx fs)) : ∃ ox od, PySem.W.InstAt s.heap p ox C od ∧ ox.data = .plain ∧ s.heap.get? p = some ox := by
  obtain ⟨mA, O, _⟩ := ins_get I.hok h
  obtain ⟨od, J, _⟩ := O.look
  exact ⟨_, _, J, rfl, J.at_⟩
/-- n * x -/
def rMulR (C : Addr) (sp : Sp) (E : XK) : R2 := fun x y H Q => ∃ p dp fp n, x = .int n ∧ y = .ref p ∧ H p = some (.ins C dp fp) ∧ sp [.ref p, .int n] H Q E
theorem op_mulR {ro : Option Value} (c : OpT X.K C "mul" f g) (h1 : PySem.W.findIn X.K (.type "int") (PySem.dunder "mul") = some (some (.builtin "int.__mul__"))) (h2 : PySem.W.findIn X.K (.type "int") (dunderR "mul") = some ro)
    (F : FnOk X.prog X.w X.K X.mg X.base CX k g fd ps sp) (hr : Room k X.A) (hb : Binds X.K fd ps []) (hx : Passes CX X E) : OpR X (binaryOp .Mult) (rMulR C sp E) := by
  intro pins s σ H x y v u Q I rx ry h
  obtain ⟨p, dp, fp, n, rfl, rfl, hp, k⟩ := h
  cases ry
  obtain ⟨t, rfl⟩ := rx
  obtain ⟨ox, od, J, hd, hg⟩ := ins_obj I hp
  refine mul_right I.kIn J hd hg c h1 h2 ?_
  exact wpAny_mono (run_fn (us := [.ref p, .int n t]) (vs := [.ref p, .int n]) (dvs := []) F hr hb .nil hx I (.cons rfl (.cons ⟨t, rfl⟩ .nil)) k) (fun v s' z => back_of z) fun _ _ z => z
/-- -x -/
def rNegO (C : Addr) (sp : Sp) (E : XK) : V → Hp → VK → Prop := fun x H Q => ∃ p dp fp, x = .ref p ∧ H p = some (.ins C dp fp) ∧ sp [.ref p] H Q E
theorem un_negO (c : Spc X.K C "__neg__" f) (F : FnOk X.prog X.w X.K X.mg X.base CX k f fd ps sp) (hr : Room k X.A) (hb : Binds X.K fd ps []) (hx : Passes CX X E) : UnR X (unaryOp .USub) (rNegO C sp E) := by
  intro pins s σ H x v Q I rx h
  obtain ⟨p, dp, fp, rfl, hp, k⟩ := h
  cases rx
  obtain ⟨ox, od, J, _⟩ := ins_inst I hp
  obtain ⟨m, Fr⟩ := I.fr
  exact PySem.W.ksp_neg Fr I.ok.mod.kin J c.at_ c.fn (run_fn (us := [.ref p]) (vs := [.ref p]) (dvs := []) F hr hb .nil hx I (.cons rfl .nil) k)
/-- abs(x) -/
def rAbsO (C : Addr) (sp : Sp) (E : XK) : List V → Hp → VK → Prop := fun xs H Q => ∃ p dp fp, xs = [.ref p] ∧ H p = some (.ins C dp fp) ∧ sp [.ref p] H Q E
theorem call_absO (c : Spc X.K C "__abs__" f) (F : FnOk X.prog X.w X.K X.mg X.base CX k f fd ps sp) (hr : Room (k + 1) X.A) (hb : Binds X.K fd ps []) (hx : Passes CX X E) : CallR X (.builtin "abs") (rAbsO C sp E) := by
  intro pins s σ H xs us Q I r h
  obtain ⟨p, dp, fp, rfl, hp, q⟩ := h
  rw [Vals.ref1 r]
  obtain ⟨ox, od, J, _⟩ := ins_inst I hp
  refine Calls.call_function_entry kind_abs plain_abs entry_abs (args_abs _) ?_
  unfold Builtin.«abs»
  refine wpAny_bind (m := oneArg "abs" _) (wpAny_pure ?_)
  refine wpAny_bind (m := callSpecial? (.ref p) (Str.ofString "__abs__")) (PySem.W.special_fn I.kIn J c.at_ (beq_iff_eq.mp c.fn) (wpAny_mono (run_fn1 (us := [.ref p]) (vs := [.ref p]) F hr hb hx I (.cons rfl .nil) q) (fun v s' z => ?_) fun _ _ z => z))
  exact wpAny_pure ⟨_, rfl, z⟩
/-- x op= y -/
theorem ip_own (c : OpC X.K C (dunderI op.info.2) f) (F : FnOk X.prog X.w X.K X.mg X.base CX k f fd ps sp) (hr : Room k X.A) (hb : Binds X.K fd ps []) (hx : Passes CX X E) : PIp X op (fun x y H Q => ∃ p dp fp, x = .ref p ∧ H p = some (.ins C dp fp) ∧ sp [.ref p, y] H Q E) := by
  intro pins s σ H x y v u Q I rx ry h
  obtain ⟨p, dp, fp, rfl, hp, k⟩ := h
  cases rx
  obtain ⟨ox, od, J, _⟩ := ins_inst I hp
  obtain ⟨m, Fr⟩ := I.fr
  refine PySem.W.ksp_inplace Fr I.ok.mod.kin J c.sf c.at_ c.fn ?_
  exact wpAny_mono (run_fn (us := [.ref p, u]) (vs := [.ref p, y]) (dvs := []) F hr hb .nil hx I (.cons rfl (.cons ry .nil)) k) (fun v s' z => back_of z) fun _ _ z => z
/-- x[y] by an own __getitem__ -/
def rIxO (C : Addr) (sp : Sp) (E : XK) : R2 := fun x y H Q => ∃ p dp fp, x = .ref p ∧ H p = some (.ins C dp fp) ∧ sp [.ref p, y] H Q E
theorem pe_ixO (c : Spc X.K C "__getitem__" f) (hf : PySem.W.fnIn X.K f = true) (F : FnOk X.prog X.w X.K X.mg X.base CX k f fd ps sp) (hr : Room (k + 1) X.A) (hb : Binds X.K fd ps []) (hx : Passes CX X E) (ha : PE X a ta) (hi : PE X b tb)
    (hsl : ∀ o i, subscripted b true (.ref o) i = runValue (.builtin "lifetime.subscript" ⟨[.ref o, i], []⟩) := by intro _ _; rfl) : PE X (.Subscript a b pos) (tOp (rIxO C sp E) ta tb) := by
  refine ⟨fun pins s σ H Q I h => ?_⟩
  refine Subscript_ (binT ha hi I h fun v u s2 x y H2 I2 rx ry q => ?_)
  obtain ⟨p, dp, fp, rfl, hp, q⟩ := q
  cases rx
  obtain ⟨ox, od, J, _⟩ := ins_inst I2 hp
  obtain ⟨m, Fr⟩ := I2.fr
  exact PySem.W.sub_K Fr I2.ok.mod.kin J c.at_ hf c.fn (run_fn1 (us := [.ref p, u]) (vs := [.ref p, y]) F hr hb hx I2 (.cons rfl (.cons ry .nil)) q) (hsl _ _)
end
end Cs

set_option Elab.async false
set_option linter.all false
set_option maxRecDepth 100000
set_option maxHeartbeats 4000000
/-! The law's draws: a source is a list of the script's cells and three numbers. -/
namespace Cs
open PySem L2
/-- the builtins and helper defs that are reached, by what the module's names hold -/
structure Bi (mg : Str → Option Value) : Prop where
  len : mg "len" = none
  int : mg "int" = none
  abs : mg "abs" = none
  list : mg "list" = none
  range : mg "range" = none
  sorted : mg "sorted" = none
  str : mg "str" = none
  isinstance : mg "isinstance" = none
  sum : mg "sum" = none
  tuple : mg "tuple" = none
  dict : mg "dict" = none
  all : mg "all" = none
  bool : mg "bool" = none
  enumerate : mg "enumerate" = none
/-- all but what stands at p is as it was -/
def Kp (p : Addr) (H H' : Hp) : Prop := ∀ b o, H b = some o → b ≠ p → H' b = some o
theorem Kp.refl (p : Addr) (H : Hp) : Kp p H H := fun _ _ h _ => h
theorem Kp.trans {p : Addr} {H H1 H2 : Hp} (a : Kp p H H1) (b : Kp p H1 H2) : Kp p H H2 := fun c o h n => b c o (a c o h n) n
theorem Kp.of {p : Addr} {H H1 : Hp} (a : Same H H1) : Kp p H H1 := fun c o h _ => a c o h
theorem Kp.upd {p : Addr} {H : Hp} {o : HO} : Kp p H (upd H p o) := fun c u h n => by rw [upd_ne n]; exact h
theorem Kp.seq {K : PySem.W.Frag} {p a : Addr} {H H' : Hp} {xs : List V} (k : Kp p H H') (h : SqL K H a xs) (n : a ≠ p) : SqL K H' a xs := by
  rcases h with (h | ⟨o, h⟩) | h
  · exact .inl (.inl (k _ _ h n))
  · exact .inl (.inr ⟨o, k _ _ h n⟩)
  · exact .inr h
theorem Same.new {H : Hp} {p : Addr} {o : HO} (h : H p = none) : Same H (L2.upd H p o) := fun b u e => by
  rw [upd_ne (ne_of_none e h)]
  exact e
/-- a source of draws at p, its cells at c -/
def Src (H : Hp) (p c : Addr) : Prop := ∃ (ns : List Int) (i l n : Int), H p = some (.lst [.ref c, .int i, .int l, .int n]) ∧ H c = some (.lst (ns.map V.int)) ∧ c ≠ p ∧ 0 ≤ i ∧ 0 ≤ l
theorem Src.keep {H H' : Hp} {p c : Addr} (h : Src H p c) (s : ∀ b o, (b = p ∨ b = c) → H b = some o → H' b = some o) : Src H' p c := by
  obtain ⟨ns, i, l, n, a, b, r⟩ := h
  exact ⟨ns, i, l, n, s _ _ (.inl rfl) a, s _ _ (.inr rfl) b, r⟩
theorem Src.same {H H' : Hp} {p c : Addr} (s : Same H H') (h : Src H p c) : Src H' p c := h.keep fun b o _ e => s b o e
theorem Src.at_p {H : Hp} {p c : Addr} (h : Src H p c) : ∃ xs, H p = some (.lst xs) := by
  obtain ⟨ns, i, l, n, a, _⟩ := h
  exact ⟨_, a⟩
theorem Src.at_c {H : Hp} {p c : Addr} (h : Src H p c) : ∃ xs, H c = some (.lst xs) := by
  obtain ⟨ns, i, l, n, a, b, _⟩ := h
  exact ⟨_, b⟩
theorem Src.new_p {H : Hp} {p c q : Addr} (h : Src H p c) (n : H q = none) : q ≠ p := by
  obtain ⟨xs, e⟩ := h.at_p
  exact (ne_of_none e n).symm
theorem Src.new_c {H : Hp} {p c q : Addr} (h : Src H p c) (n : H q = none) : q ≠ c := by
  obtain ⟨xs, e⟩ := h.at_c
  exact (ne_of_none e n).symm
theorem Src.tup_p {H : Hp} {p c t : Addr} {xs : List V} (h : Src H p c) (e : H t = some (.tup xs)) : t ≠ p := by
  obtain ⟨ys, a⟩ := h.at_p
  rintro rfl
  rw [e] at a
  cases a
theorem atI0 {α : Type} {a b c d : α} : atI [a, b, c, d] 0 = some a := rfl
theorem atI1 {α : Type} {a b c d : α} : atI [a, b, c, d] 1 = some b := rfl
theorem atI2 {α : Type} {a b c d : α} : atI [a, b, c, d] 2 = some c := rfl
theorem atI3 {α : Type} {a b c d : α} : atI [a, b, c, d] 3 = some d := rfl

def spMixed : Sp := fun vs H Q _ => ∃ c n : Int, vs = [.int c, .int n] ∧ ∀ v : Int, Q (.int v) H
def spDraw : Sp := fun vs H Q _ => ∃ (p c : Addr) (n : Int), vs = [.ref p, .int n] ∧ Src H p c ∧ 0 < n ∧ n < 1329227995784915872903807060280344576 ∧ ∀ (v : Int) (H' : Hp), 0 ≤ v → v < n → Src H' p c → Kp p H H' → Q (.int v) H'
def spSource (K : PySem.W.Frag) : Sp := fun vs H Q _ => ∃ (a : Addr) (ns : List Int), vs = [.ref a] ∧ SqL K H a (ns.map V.int) ∧ ∀ (p c : Addr) (H' : Hp), H p = none → H c = none → Same H H' → Src H' p c → Q (.ref p) H'

section
variable {P : Program} {w : World} {K : PySem.W.Frag} {mg : Str → Option Value} {base : Heap}
theorem ok_mixed {f : Addr} {fd : FuncData} (F : Fun K "_law_mixed" "_law_mixed" s_l_mixed f fd) (g : Bi mg) : FnOk P w K mg base CX0 1 f fd ["_law_cell", "_law_count"] spMixed := by
  refine F.ok sc_l_mixed (fun vs H Q E h => ?_) (fun cdv A outer s H vs Q E hr h => ?_)
  · obtain ⟨_, _, rfl, _⟩ := h
    rfl
  · obtain ⟨c, n, rfl, k⟩ := h
    refine ⟨_, (pss_cons (ps_if (pt_cmpR op_eq (pv 0) pe_int (nomark _)) (pss_one (ps_ret pe_int)) pss_nil)
      (pss_cons (ps_set (i := 2) sc_l_mixed.nd rfl (Or.inl rfl) (pe_op op_mod (pe_callTy call_int1 (by rfl) g.int (by decide +kernel) (pa_cons (pe_op op_add (pe_op op_mul (pv 0) pe_int) (pe_op op_mul (pv 1) pe_int)) pa_nil)) pe_int))
      (pss_one (ps_ret (pe_op op_fdiv (pe_op op_mod (pe_callTy call_int1 (by rfl) g.int (by decide +kernel) (pa_cons (pe_op op_add (pe_op op_add (pe_op op_mul (pv 2) pe_int) (pe_op op_mul (pe_op op_fdiv (pv 2) pe_int) (pv 1))) pe_int) pa_nil)) pe_int) pe_int))))), ?_⟩
    refine ⟨_, rfl, rfl, _, rfl, ite2 (fun _ => k _) (fun _ => ?_)⟩
    refine ⟨_, rfl, _, _, rfl, rfl, .inr ⟨by decide, by decide⟩, _, rfl, _, _, rfl, rfl, .inr ⟨by decide, by decide⟩, _, _, rfl, rfl, Or.inl ⟨_, rfl, _, _, rfl, rfl, (by show (0 : Int) < 2147483647; decide), ?_⟩⟩
    generalize hf : (c * 48271 + n * 69621) % 2147483647 = a
    have h0 : 0 ≤ a := by rw [← hf]; exact Int.emod_nonneg _ (by decide)
    have h1 : a < 2147483647 := by rw [← hf]; exact Int.emod_lt_of_pos _ (by decide)
    refine ⟨_, rfl, _, _, rfl, rfl, .inr ⟨by decide, by decide⟩, _, rfl, _, _, rfl, rfl, ⟨by decide, by decide⟩, _, rfl, _, _, rfl, rfl, .inl ⟨by omega, by omega⟩, _, _, rfl, rfl, _, _, rfl, rfl, Or.inl ⟨_, rfl, _, _, rfl, rfl, (by show (0 : Int) < 2147483399; decide), _, _, rfl, rfl, ⟨by decide, by decide⟩, k _⟩⟩
theorem ok_source {f : Addr} {fd : FuncData} (F : Fun K "_law_source" "_law_source" s_l_source f fd) (g : Bi mg) : FnOk P w K mg base CX0 1 f fd ["_law_script"] (spSource K) := by
  refine F.ok sc_l_source (fun vs H Q E h => ?_) (fun cdv A outer s H vs Q E hr h => ?_)
  · obtain ⟨_, _, rfl, _⟩ := h
    rfl
  · obtain ⟨a, ns, rfl, hS, k⟩ := h
    refine ⟨_, (pss_one (ps_ret (pe_lst (pa_cons (pe_callTy call_list_of (by rfl) g.list (by decide +kernel) (pa_cons (pe_slice sl_list (pv 0) po_none (po_some pe_int)) pa_nil)) (pa_cons pe_int (pa_cons pe_int (pa_cons pe_int pa_nil))))))), ?_⟩
    refine ⟨_, rfl, _, rfl, a, _, rfl, hS, fun q hq => ⟨q, _, rfl, .inl (SqL.of upd_same), fun c hc => ⟨by show 4 ≤ sizeLine; decide, fun p hp => ?_⟩⟩⟩
    have s1 : Same H (upd H q (.lst (cutV (ns.map V.int) none (some 63)))) := Same.new hq
    have s2 := s1.trans (Same.new (o := .lst (cutV (ns.map V.int) none (some 63))) hc)
    have s3 := s2.trans (Same.new (o := .lst [.ref c, .int 0, .int 0, .int 0]) hp)
    have ncp : c ≠ p := ne_of_none (H := upd _ c _) upd_same hp
    obtain ⟨ms, em⟩ : ∃ ms : List Int, cutV (ns.map V.int) none (some 63) = ms.map V.int := by
      unfold cutV
      rw [← List.map_drop, ← List.map_take]
      exact ⟨_, rfl⟩
    refine k p c _ (s2.free hp) (s1.free hc) s3 ⟨ms, 0, 0, 0, upd_same, ?_, ncp, by decide, by decide⟩
    rw [upd_ne ncp, upd_same, em]
theorem ok_draw {f fM : Addr} {fd fdM : FuncData} (F : Fun K "_law_draw" "_law_draw" s_l_draw f fd) (g : Bi mg) (FM : Fun K "_law_mixed" "_law_mixed" s_l_mixed fM fdM) (mM : mg "_law_mixed" = some (.ref fM)) (bM : Binds K fdM ["_law_cell", "_law_count"] []) :
    FnOk P w K mg base CX0 2 f fd ["_law_source_here", "_law_size"] spDraw := by
  have GM : FnOk P w K mg base CX0 1 fM fdM ["_law_cell", "_law_count"] spMixed := ok_mixed FM g
  refine F.ok sc_l_draw (fun vs H Q E h => ?_) (fun cdv A outer s H vs Q E hr h => ?_)
  · obtain ⟨_, _, _, rfl, _⟩ := h
    rfl
  · obtain ⟨p, c, n, rfl, ⟨ns, i, l, m, hp, hc, ncp, hi, hl⟩, n0, n1, k⟩ := h
    have hrM : Room 1 _ := hr.mono (by decide)
    refine ⟨_, (pss_cons (ps_asg (pe_op op_add (pe_ix ix_list (pv 0) pe_int (fun _ _ => rfl)) pe_int) (pg_sub (pv 0) pe_int set_list))
      (C8.pss_cut (ps_if (PW.pt (pw_and (pt_cmpR op_eq (pe_ix ix_list (pv 0) pe_int (fun _ _ => rfl)) pe_int (nomark _)) (pw_and1 (pt_cmpR op_gt (pe_callB call_len (by rfl) g.len PySem.boot_len (pa_cons (pe_ix ix_list (pv 0) pe_int (fun _ _ => rfl)) pa_nil)) pe_int (nomark _))))) (pss_cons (ps_set (i := 2) sc_l_draw.nd rfl (Or.inl rfl) (pe_ix ix_list (pv 0) pe_int (fun _ _ => rfl)))
      (pss_cons (ps_set (i := 3) sc_l_draw.nd rfl (Or.inl rfl) (pe_ix ix_list (pe_ix ix_list (pv 0) pe_int (fun _ _ => rfl)) (pe_op op_mod (pe_callTy call_int1 (by rfl) g.int (by decide +kernel) (pa_cons (pv 2) pa_nil)) (pe_callB call_len (by rfl) g.len PySem.boot_len (pa_cons (pe_ix ix_list (pv 0) pe_int (fun _ _ => rfl)) pa_nil))) (fun _ _ => rfl)))
      (pss_cons (ps_asg (pe_op op_add (pv 2) pe_int) (pg_sub (pv 0) pe_int set_list))
      (pss_one (ps_if (PW.pt (pw_and (pt_cmpR op_lt (pv 2) (pe_callB call_len (by rfl) g.len PySem.boot_len (pa_cons (pe_ix ix_list (pv 0) pe_int (fun _ _ => rfl)) pa_nil)) (nomark _)) (pw_and1 (pt_cmpR op_ge (pe_callB call_abs (by rfl) g.abs (by decide +kernel) (pa_cons (pv 3) pa_nil)) (pe_op op_pow pe_int pe_int) (nomark _))))) (pss_one (ps_asg (pe_callB call_abs (by rfl) g.abs (by decide +kernel) (pa_cons (pv 3) pa_nil)) (pg_sub (pv 0) pe_int set_list))) (pss_one (ps_ret (pe_op op_mod (pe_callTy call_int1 (by rfl) g.int (by decide +kernel) (pa_cons (pe_call GM hrM rfl mM FM.kp bM .nil pass0 (pa_cons (pv 3) (pa_cons (pe_ix ix_list (pv 0) pe_int (fun _ _ => rfl)) pa_nil))) pa_nil)) (pv 1))))))))) pss_nil)
      (pss_cons (ps_set (i := 4) sc_l_draw.nd rfl (Or.inl rfl) (pe_op op_mod (pe_callTy call_int1 (by rfl) g.int (by decide +kernel) (pa_cons (pe_ix ix_list (pv 0) pe_int (fun _ _ => rfl)) pa_nil)) (pv 1)))
      (pss_cons (ps_asg (pe_op op_fdivW (pe_ix ix_list (pv 0) pe_int (fun _ _ => rfl)) (pv 1)) (pg_sub (pv 0) pe_int set_list))
      (pss_one (ps_ret (pv 4))))))), ?_⟩
    have c1 : ∀ o, (upd H p o) c = some (.lst (ns.map V.int)) := fun o => by rw [upd_ne ncp]; exact hc
    have q1 : ∀ xs, SqL K (upd H p (.lst xs)) p xs := fun xs => SqL.of upd_same
    have q2 : ∀ o, SqL K (upd H p o) c (ns.map V.int) := fun o => SqL.of (c1 o)
    refine ⟨_, rfl, p, _, _, _, rfl, rfl, SqL.of hp, atI3, _, _, rfl, rfl, _, rfl, p, _, _, 3, rfl, rfl, hp, rfl, ?_⟩
    have e1 : ([V.ref c, .int i, .int l, .int m].set 3 (.int (m + 1))) = [V.ref c, .int i, .int l, .int (m + 1)] := rfl
    rw [e1]
    refine ⟨fun σ' H2 => ∃ x2 x3 x4 j l2, σ' = [some (.ref p), some (.int n), x2, x3, x4] ∧ H2 p = some (.lst [.ref c, .int j, .int l2, .int (m + 1)]) ∧ H2 c = some (.lst (ns.map V.int)) ∧ 0 ≤ j ∧ 0 ≤ l2 ∧ Kp p H H2, ?_, ?_⟩
    · refine ⟨_, rfl, p, _, _, _, rfl, rfl, q1 _, atI2, rfl, _, rfl, ?_⟩
      refine ite2 (fun z => ?_) (fun z => ?_)
      · refine ⟨_, rfl, p, _, _, _, rfl, rfl, q1 _, atI0, _, _, rfl, .inl ⟨_, q2 _, rfl⟩, _, _, rfl, rfl, _, rfl, ?_⟩
        rw [List.length_map]
        refine ite2 (fun z2 => ?_) (fun z2 => ?_)
        · have hlen : 0 < ns.length := by simpa using z2
          refine ⟨_, rfl, p, _, _, _, rfl, rfl, q1 _, atI1, ?_⟩
          have hx0 : 0 ≤ i % (ns.length : Int) := Int.emod_nonneg _ (by omega)
          have hx1 : i % (ns.length : Int) < (ns.length : Int) := Int.emod_lt_of_pos _ (by omega)
          obtain ⟨j, ej⟩ : ∃ j : Nat, i % (ns.length : Int) = (j : Int) := ⟨(i % (ns.length : Int)).toNat, by omega⟩
          have hj : j < ns.length := by omega
          have hat : atI (ns.map V.int) (i % ((ns.map V.int).length : Int)) = some (.int ns[j]) := by
            rw [List.length_map, ej]
            exact atI_nat (by rw [List.getElem?_map, List.getElem?_eq_getElem hj]; rfl)
          refine ⟨_, rfl, p, _, _, _, rfl, rfl, q1 _, atI0, _, rfl, Or.inl ⟨_, rfl, _, rfl, p, _, _, _, rfl, rfl, q1 _, atI0, _, _, rfl, .inl ⟨_, q2 _, rfl⟩, _, _, rfl, rfl, (by rw [List.length_map]; omega), c, _, _, _, rfl, rfl, q2 _, hat, ?_⟩⟩
          refine ⟨_, rfl, _, _, rfl, rfl, _, rfl, p, _, _, 1, rfl, rfl, upd_same, rfl, ?_⟩
          have e2 : ([V.ref c, .int i, .int l, .int (m + 1)].set 1 (.int (i + 1))) = [V.ref c, .int (i + 1), .int l, .int (m + 1)] := rfl
          rw [e2]
          have c2 : ∀ o o', (upd (upd H p o) p o') c = some (.lst (ns.map V.int)) := fun o o' => by rw [upd_ne ncp]; exact c1 o
          have kp2 : ∀ o o', Kp p H (upd (upd H p o) p o') := fun o o' => Kp.upd.trans Kp.upd
          have other : ∀ v : Int, Q (.int (v % n)) (upd (upd H p (.lst [.ref c, .int i, .int l, .int (m + 1)])) p (.lst [.ref c, .int (i + 1), .int l, .int (m + 1)])) := fun v =>
            k _ _ (Int.emod_nonneg _ (by omega)) (Int.emod_lt_of_pos _ n0) ⟨ns, i + 1, l, m + 1, upd_same, c2 _ _, ncp, by omega, hl⟩ (kp2 _ _)
          refine ⟨_, rfl, _, rfl, p, _, _, _, rfl, rfl, SqL.of upd_same, atI0, _, _, rfl, .inl ⟨_, SqL.of (c2 _ _), rfl⟩, _, _, rfl, rfl, _, rfl, ?_⟩
          refine ite2 (fun z3 => ?_) (fun z3 => ?_)
          · refine ⟨_, rfl, _, rfl, _, _, rfl, rfl, ⟨by decide, by decide, by decide⟩, _, _, rfl, rfl, _, rfl, ?_⟩
            refine ite2 (fun z4 => ?_) (fun z4 => ?_)
            · refine ⟨_, rfl, _, rfl, _, rfl, p, _, _, 2, rfl, rfl, upd_same, rfl, ?_⟩
              refine ⟨_, _, _, i + 1, _, rfl, upd_same, by rw [upd_ne ncp]; exact c2 _ _, by omega, ?_, (kp2 _ _).trans Kp.upd⟩
              split <;> omega
            · refine ⟨_, rfl, _, rfl, p, _, _, _, rfl, rfl, SqL.of upd_same, atI3, _, _, rfl, fun v => Or.inl ⟨_, rfl, _, rfl, _, _, rfl, rfl, n0, other v⟩⟩
          · refine ⟨_, rfl, _, rfl, p, _, _, _, rfl, rfl, SqL.of upd_same, atI3, _, _, rfl, fun v => Or.inl ⟨_, rfl, _, rfl, _, _, rfl, rfl, n0, other v⟩⟩
        · exact ⟨_, _, _, i, l, rfl, upd_same, c1 _, hi, hl, Kp.upd⟩
      · exact ⟨_, _, _, i, l, rfl, upd_same, c1 _, hi, hl, Kp.upd⟩
    · rintro σ' H2 ⟨x2, x3, x4, j, l2, rfl, hp2, hc2, j0, l0, kp⟩
      refine ⟨_, rfl, p, _, _, _, rfl, rfl, SqL.of hp2, atI2, Or.inl ⟨_, rfl, _, rfl, _, _, rfl, rfl, n0, ?_⟩⟩
      refine ⟨_, rfl, p, _, _, _, rfl, rfl, SqL.of hp2, atI2, _, rfl, _, _, rfl, rfl, wide_div (b := 120) n0 (by omega) (by decide) (by decide), _, rfl, p, _, _, 2, rfl, rfl, hp2, rfl, ?_⟩
      refine ⟨_, rfl, ?_⟩
      exact k _ _ (Int.emod_nonneg _ (by omega)) (Int.emod_lt_of_pos _ n0) ⟨ns, j, l2 / n, m + 1, upd_same, by rw [upd_ne ncp]; exact hc2, ncp, j0, Int.ediv_nonneg l0 (by omega)⟩ (kp.trans Kp.upd)
end
end Cs

set_option Elab.async false
set_option linter.all false
set_option maxRecDepth 100000
set_option maxHeartbeats 4000000
/-! The law's words, numbers and pairs. -/
namespace Cs
open PySem L2
def LET : Str := "abcdefghijklmnopqrstuvwxyz"
/-- one to eight letters -/
def Word (z : Str) : Prop := 1 ≤ z.length ∧ z.length ≤ 8 ∧ ∀ c ∈ z.cps.toList, c ∈ LET.cps.toList
/-- at most thirty digits -/
def Small (n : Int) : Prop := -(10 ^ 30) < n ∧ n < 10 ^ 30
theorem len_add (x y : Str) : (x ++ y).length = x.length + y.length := by
  show (x.cps ++ y.cps).size = x.cps.size + y.cps.size
  exact Array.size_append
theorem cps_add (x y : Str) : (x ++ y).cps.toList = x.cps.toList ++ y.cps.toList := by
  show (x.cps ++ y.cps).toList = _
  exact Array.toList_append
def wordB (z : Str) : Bool := decide (1 ≤ z.length) && decide (z.length ≤ 8) && z.cps.toList.all fun c => decide (c ∈ LET.cps.toList)
theorem word_of {z : Str} (h : wordB z = true) : Word z := by
  unfold wordB at h
  simp only [Bool.and_eq_true, decide_eq_true_eq, List.all_eq_true] at h
  exact ⟨h.1.1, h.1.2, h.2⟩
theorem ats_of {α : Type} {xs : List α} {z : Int} {j : Nat} {v : α} (e : z = (j : Int)) (h : xs[j]? = some v) : atI xs z = some v := by
  rw [e]
  exact atI_nat h
def spWord : Sp := fun vs H Q _ => ∃ p c : Addr, vs = [.ref p] ∧ Src H p c ∧ ∀ (z : Str) (H' : Hp), Word z → Src H' p c → Kp p H H' → Q (.str z) H'
def spNumber : Sp := fun vs H Q _ => ∃ p c : Addr, vs = [.ref p] ∧ Src H p c ∧ ∀ (n : Int) (H' : Hp), Small n → Src H' p c → Kp p H H' → Q (.int n) H'
/-- the items are tuples of a text and a number -/
def PrL (H : Hp) : List V → List (Str × Int) → Prop := Paired fun x q => ∃ t, x = V.ref t ∧ H t = some (.tup [.str q.1, .int q.2])
def GoodPs (ps : List (Str × Int)) : Prop := ∀ q ∈ ps, Word q.1 ∧ Small q.2
def spPairs : Sp := fun vs H Q _ => ∃ (p c : Addr) (m : Int), vs = [.ref p, .int m] ∧ Src H p c ∧ 0 ≤ m ∧ m ≤ 1000 ∧
  ∀ (q : Addr) (H' : Hp) (xs : List V) (ps : List (Str × Int)), H q = none → H' q = some (.lst xs) → PrL H' xs ps → GoodPs ps → (ps.length : Int) ≤ m → Src H' p c → Kp p H H' → Q (.ref q) H'
theorem PrL.mono {H H' : Hp} {xs : List V} {ps : List (Str × Int)} (h : PrL H xs ps) (k : ∀ t a b, H t = some (.tup [.str a, .int b]) → H' t = some (.tup [.str a, .int b])) : PrL H' xs ps :=
  Paired.mapP h fun x q ⟨t, e, r⟩ => ⟨t, e, k t _ _ r⟩
theorem PrL.length {H : Hp} : ∀ {xs : List V} {ps : List (Str × Int)}, PrL H xs ps → xs.length = ps.length
  | _, _, .nil => rfl
  | _, _, .cons _ t => congrArg (· + 1) (PrL.length t)
theorem PrL.at {H : Hp} : ∀ {xs : List V} {ps : List (Str × Int)}, PrL H xs ps → ∀ {i : Nat} {q : Str × Int}, ps[i]? = some q → ∃ t, xs[i]? = some (V.ref t) ∧ H t = some (.tup [.str q.1, .int q.2])
  | _, _, .nil, i, q, h => by simp at h
  | _, _, .cons (a := a) r t, 0, q, h => by
    obtain ⟨u, e, hu⟩ := r
    obtain rfl := Option.some.inj h
    exact ⟨u, by rw [e]; rfl, hu⟩
  | _, _, .cons r t, i + 1, q, h => PrL.at t h
theorem PrL.snoc {H : Hp} : ∀ {xs : List V} {ps : List (Str × Int)} {t : Addr} {a : Str} {b : Int}, PrL H xs ps → H t = some (.tup [.str a, .int b]) → PrL H (xs ++ [.ref t]) (ps ++ [(a, b)])
  | _, _, _, _, _, .nil, h => .cons ⟨_, rfl, h⟩ .nil
  | _, _, _, _, _, .cons r t, h => .cons r (PrL.snoc t h)
section
variable {P : Program} {w : World} {K : PySem.W.Frag} {mg : Str → Option Value} {base : Heap}
/-- a def of the module as its callers have it: its promise, its name, that it stays, how its arguments bind -/
structure Def (P : Program) (w : World) (K : PySem.W.Frag) (mg : Str → Option Value) (base : Heap) (CX : CXT) (k : Nat) (x : Str) (ps : List Str) (sp : Sp) (f : Addr) (fd : FuncData) : Prop where
  ok : FnOk P w K mg base CX k f fd ps sp
  m : mg x = some (.ref f)
  kp : PySem.W.keepIn K (.ref f) = true
  b : Binds K fd ps []
end
end Cs

set_option Elab.async false
set_option linter.all false
set_option maxRecDepth 100000
set_option maxHeartbeats 4000000
namespace Cs
open PySem L2
section
variable {P : Program} {w : World} {K : PySem.W.Frag} {mg : Str → Option Value} {base : Heap}
end
end Cs

set_option Elab.async false
set_option linter.all false
set_option maxRecDepth 100000
set_option maxHeartbeats 4000000
/-! The program's words: is_integer, is_word, is_small, is_pair, distinct. -/
namespace Cs
open PySem L2
/-- a value of a built-in type that is no int -/
def NotInt (K : PySem.W.Frag) (H : Hp) (x : V) : Prop := ∃ ty : String, TyX K H x (.type ty) ∧ (ty = "bool" ∨ kitB ty "int" = some false)
def spIsInteger (K : PySem.W.Frag) : Sp := fun vs H Q _ => (∃ n : Int, vs = [.int n] ∧ Q (.bl true) H) ∨ (∃ x, vs = [x] ∧ NotInt K H x ∧ Q (.bl false) H)
def spIsSmall (K : PySem.W.Frag) : Sp := fun vs H Q _ => (∃ n : Int, vs = [.int n] ∧ Q (.bl (decide (-(10 ^ 30) < n) && decide (n < 10 ^ 30))) H) ∨ (∃ x, vs = [x] ∧ NotInt K H x ∧ Q (.bl false) H)
def spIsWord (K : PySem.W.Frag) : Sp := fun vs H Q _ => (∃ z : Str, vs = [.str z] ∧ z.length ≤ 100000 ∧ ∀ H', Same H H' → Q (.bl (wordB z)) H') ∨ (∃ x ty, vs = [x] ∧ TyX K H x (.type ty) ∧ kitB ty "str" = some false ∧ Q (.bl false) H)
/-- of a good pair -/
def spIsPair (K : PySem.W.Frag) : Sp := fun vs H Q _ => ∃ (t : Addr) (z : Str) (n : Int), vs = [.ref t] ∧ H t = some (.tup [.str z, .int n]) ∧ Word z ∧ Small n ∧ ∀ H', Same H H' → Q (.bl true) H'
def spDistinct (K : PySem.W.Frag) : Sp := fun vs H Q _ => ∃ (a : Addr) (zs : List Str), vs = [.ref a] ∧ SqL K H a (zs.map V.str) ∧ zs.length ≤ 1000 ∧
  ∀ (p : Addr) (H' : Hp) (ws : List Str), H p = none → Same H H' → H' p = some (.lst (ws.map V.str)) → Asc ws → (∀ z, z ∈ ws ↔ z ∈ zs) → ws.length ≤ zs.length → Q (.ref p) H'
theorem wordB_of {z : Str} (h : Word z) : wordB z = true := by
  unfold wordB
  simp only [Bool.and_eq_true, decide_eq_true_eq, List.all_eq_true]
  exact ⟨⟨h.1, h.2.1⟩, h.2.2⟩
theorem kit_int {K : PySem.W.Frag} {H : Hp} {x : V} (h : NotInt K H x) : ∃ ty, TyX K H x (.type ty) ∧ (ty = "bool" ∨ kitB ty "int" = some false) := h
theorem yes_it {σ : L2.St} {H : Hp} {A B : Hp → Prop} (h : A H) : tYes σ H (fun b H3 => if b = true then A H3 else B H3) := iteT (A := A H) (B := B H) h
/-- a set comprehension of texts over a walk -/
theorem scT_it {J : It} {n : Nat} {G : Hp → Prop} {Y : Nat → Hp → V → Hp → Prop} (wk : Walk J n G Y) {w : World} {g : TG} {tt : TT} {te : TE} {vs : List Nat} {σ : L2.St} {H1 : Hp} {D : Addr} {Qd : Hp → Prop} (Pv : Nat → Hp → Prop)
    (h0 : Pv 0 (upd H1 D (TSetO w D []))) (hG : ∀ i H, i ≤ n → Pv i H → G H)
    (hs : ∀ i x H H', i < n → Pv i H → Y i H x H' → g x (wipe σ vs) H' fun σ2 H2 => wipe σ2 vs = wipe σ vs ∧ tt σ2 H2 fun b H3 =>
      if b = true then te σ2 H3 fun y H4 => ∃ (z : Str) (zs : List Str), y = .str z ∧ H4 D = some (TSetO w D zs) ∧ zs.length + 1 < scanBound ∧ Pv (i + 1) (upd H4 D (TSetO w D (addT zs z))) else Pv (i + 1) H3)
    (hd : ∀ H, Pv n H → Qd H) :
    ∃ W : Nat → Nat → Hp → Prop, (∃ m, W 0 m (upd H1 D (TSetO w D []))) ∧ ∀ i m H, W i m H →
      (J.stop i H ∧ Qd H) ∨ (J.go i H ∧ ∃ Nx : Hp → Prop, (∀ H', Nx H' → ∃ m', m' < m ∧ W (i + 1) m' H') ∧ ∀ x H', J.yld i H x H' → g x (wipe σ vs) H' fun σ2 H2 => wipe σ2 vs = wipe σ vs ∧ tt σ2 H2 fun b H3 =>
        if b = true then te σ2 H3 fun y H4 => ∃ (z : Str) (zs : List Str), y = .str z ∧ H4 D = some (TSetO w D zs) ∧ zs.length + 1 < scanBound ∧ Nx (upd H4 D (TSetO w D (addT zs z))) else Nx H3) := by
  refine ⟨fun i m H => m = n - i ∧ i ≤ n ∧ Pv i H, ⟨n, by simp, Nat.zero_le _, h0⟩, ?_⟩
  rintro i m H ⟨rfl, hi, p⟩
  by_cases lt : i < n
  · exact .inr ⟨wk.goes i H lt (hG i H hi p), Pv (i + 1), fun H' r => ⟨n - (i + 1), by omega, rfl, lt, r⟩, fun x H' y => hs i x H H' lt p (wk.yields i H x H' lt (hG i H hi p) y)⟩
  · obtain rfl : i = n := by omega
    exact .inl ⟨wk.stops H (hG i H hi p), hd H p⟩
section
variable {P : Program} {w : World} {K : PySem.W.Frag} {mg : Str → Option Value} {base : Heap}
theorem ok_is_integer {f : Addr} {fd : FuncData} (F : Fun K "is_integer" "is_integer" s_is_integer f fd) (g : Bi mg) : FnOk P w K mg base CX0 1 f fd ["thing"] (spIsInteger K) := by
  refine F.ok sc_is_integer (fun vs H Q E h => ?_) (fun cdv A outer s H vs Q E hr h => ?_)
  · rcases h with ⟨_, rfl, _⟩ | ⟨_, rfl, _⟩ <;> rfl
  · refine ⟨_, (pss_one (ps_ret (pe_and (pe_callB call_isi (by rfl) g.isinstance (by decide +kernel) (pa_cons (pv 0) (pa_cons (pe_bltn (v := .ty "int") (by rfl) g.int (by decide +kernel) rfl) pa_nil))) (pe_one (pe_not (pe_callB call_isi (by rfl) g.isinstance (by decide +kernel) (pa_cons (pv 0) (pa_cons (pe_bltn (v := .ty "bool") (by rfl) g.bool (by decide +kernel) rfl) pa_nil)))))))), ?_⟩
    rcases h with ⟨n, rfl, q⟩ | ⟨x, rfl, ⟨ty, ht, hc⟩, q⟩
    · refine ⟨_, rfl, _, _, _, _, true, rfl, .ty "int", .base (.int n), kit_ty (by decide +kernel), _, rfl, iteT ?_⟩
      exact ⟨_, rfl, _, _, _, _, false, rfl, .ty "bool", .base (.int n), kit_ty (by decide +kernel), _, rfl, q⟩
    · rcases hc with e | e
      · subst e
        refine ⟨_, rfl, _, _, _, _, true, rfl, .ty "int", ht, kit_ty (by decide +kernel), _, rfl, iteT ?_⟩
        exact ⟨_, rfl, _, _, _, _, true, rfl, .ty "bool", ht, kit_ty (by decide +kernel), _, rfl, q⟩
      · exact ⟨_, rfl, _, _, _, _, false, rfl, .ty "int", ht, kit_ty e, _, rfl, iteF q⟩
theorem ok_is_word {f : Addr} {fd : FuncData} {tk : Tok} (F : Fun K "is_word" "is_word" s_is_word f fd) (g : Bi mg) (mLET : mg "LETTERS" = some (.str LET tk)) : FnOk P w K mg base CX0 1 f fd ["thing"] (spIsWord K) := by
  refine F.ok sc_is_word (fun vs H Q E h => ?_) (fun cdv A outer s H vs Q E hr h => ?_)
  · rcases h with ⟨_, rfl, _⟩ | ⟨_, _, rfl, _⟩ <;> rfl
  · refine ⟨_, (pss_cons (ps_if (PW.pt (pw_or (pt_not (pt_val (pe_callB call_isi (by rfl) g.isinstance (by decide +kernel) (pa_cons (pv 0) (pa_cons (pe_bltn (v := .ty "str") (by rfl) g.str (by decide +kernel) rfl) pa_nil))))) (pw_or1 (pt_not (pt_chain op_le op_le pe_int (pe_callB call_len (by rfl) g.len PySem.boot_len (pa_cons (pv 0) pa_nil)) pe_int))))) (pss_one (ps_ret pe_bl)) pss_nil)
      (pss_one (ps_ret (pe_callB (cr_all rfl) (by rfl) g.all (by decide +kernel) (pa_cons (pe_lc (own := [("sign", 1)]) (g := gName 1)  (by rfl) sc_is_word.nd (pi_str (pv 0)) (blkOk_by (own := [("sign", 1)]) (N := ["thing", "sign"]) (sc := defScope s_is_word) (by decide +kernel)) (fun _ _ _ _ _ => (pg_name (i := 1) sc_is_word.nd rfl (Or.inl rfl))) (fun _ _ _ _ _ => pts_nil) (fun _ _ _ _ _ => (pe_cmpR op_in_sign (pv 1) (pe_glob (v := .str LET) rfl mLET ⟨_, rfl⟩) (by rfl)))) pa_nil))))), ?_⟩
    rcases h with ⟨z, rfl, hz, q⟩ | ⟨x, ty, rfl, ht, hc, q⟩
    · refine ⟨_, rfl, _, _, _, _, true, rfl, .ty "str", .base (.str z), kit_ty (by decide +kernel), _, rfl, iteF ?_⟩
      have hl : z.length ≤ sizeLine := Nat.le_trans hz (by decide)
      refine ⟨_, rfl, _, _, rfl, ⟨hl, rfl⟩, _, _, rfl, rfl, _, rfl, ?_⟩
      have go : 1 ≤ z.length → z.length ≤ 8 → Q (.bl (wordB z)) H := fun _ _ => q H (Same.refl H)
      by_cases c : (1 : Int) ≤ (z.length : Int)
      · rw [decide_eq_true c]
        refine iteT ⟨_, _, rfl, rfl, _, rfl, ?_⟩
        by_cases d : ((z.length : Nat) : Int) ≤ 8
        · rw [decide_eq_true d]
          refine iteF ?_
          refine ⟨_, rfl, z, rfl, fun D hD => ?_⟩
          refine lc_it walk_str (fun i H' => Same H H' ∧ H' D = some (.lst ((z.cps.toList.take i).map fun c => .bl (decide (c ∈ LET.cps.toList))))) ⟨Same.new hD, upd_same⟩ (fun _ _ _ _ => True.intro) ?_ ?_
          · rintro i x H' H2 hi ⟨s', hD'⟩ ⟨rfl, c, hc, rfl⟩
            have hc' : z.cps.toList[i]? = some c := by rw [Array.getElem?_toList]; exact hc
            refine ⟨rfl, yes_it ?_⟩
            refine ⟨_, rfl, c, LET, rfl, rfl, _, hD', ?_, ?_, ?_⟩
            · rw [List.length_map, List.length_take]
              exact Nat.lt_of_le_of_lt (Nat.min_le_left _ _) (Nat.lt_of_lt_of_le hi hl)
            · exact fun b o e => by rw [upd_ne (ne_of_none e hD)]; exact s' b o e
            · rw [upd_same, List.take_succ, hc', List.map_append]
              rfl
          · rintro H' ⟨s', hD'⟩
            refine ⟨D, (z.cps.toList.map fun c => decide (c ∈ LET.cps.toList)), rfl, SqL.of ?_, ?_⟩
            · rw [hD', List.map_map, List.take_of_length_le (by rw [Array.length_toList]; exact Nat.le_refl _)]
              rfl
            · have e : (z.cps.toList.map fun c => decide (c ∈ LET.cps.toList)).all id = wordB z := by
                unfold wordB
                rw [List.all_map, decide_eq_true (show 1 ≤ z.length by omega), decide_eq_true (show z.length ≤ 8 by omega)]
                rfl
              rw [e]
              exact q H' s'
        · rw [decide_eq_false d]
          refine iteT ?_
          have e : wordB z = false := by
            unfold wordB
            rw [decide_eq_false (show ¬ z.length ≤ 8 by omega)]
            simp
          have := q H (Same.refl H)
          rw [e] at this
          exact this
      · rw [decide_eq_false c]
        refine iteF ⟨_, rfl, iteT ?_⟩
        have e : wordB z = false := by
          unfold wordB
          rw [decide_eq_false (show ¬ 1 ≤ z.length by omega)]
          simp
        have := q H (Same.refl H)
        rw [e] at this
        exact this
    · exact ⟨_, rfl, _, _, _, _, false, rfl, .ty "str", ht, kit_ty hc, _, rfl, iteT q⟩
theorem ok_distinct {f : Addr} {fd : FuncData} (F : Fun K "distinct" "distinct" s_distinct f fd) (g : Bi mg) : FnOk P w K mg base CX0 1 f fd ["words"] (spDistinct K) := by
  refine F.ok sc_distinct (fun vs H Q E h => ?_) (fun cdv A outer s H vs Q E hr h => ?_)
  · obtain ⟨_, _, rfl, _⟩ := h
    rfl
  · obtain ⟨a, zs, rfl, ha, hl, q⟩ := h
    refine ⟨_, (pss_one (ps_ret (pe_callB (cr_sortT rfl) (by rfl) g.sorted (by decide +kernel) (pa_cons (pe_scT (own := [("word", 1)]) (g := gName 1)  (by rfl) sc_distinct.nd (pi_list (pv 0)) (blkOk_by (own := [("word", 1)]) (N := ["words", "word"]) (sc := defScope s_distinct) (by decide +kernel)) (fun _ _ _ _ _ => (pg_name (i := 1) sc_distinct.nd rfl (Or.inl rfl))) (fun _ _ _ _ _ => pts_nil) (fun _ _ _ _ _ => (pe_callTy SkE.call_str_str (by rfl) g.str (by decide +kernel) (pa_cons (pv 1) pa_nil)))) pa_nil)))), ?_⟩
    refine ⟨_, rfl, a, rfl, ⟨_, ha⟩, fun D hD => ?_⟩
    refine scT_it walk_list (fun i H' => Same H H' ∧ H' D = some (TSetO w D (once (zs.take i)))) ⟨Same.new hD, upd_same⟩ (fun i H' _ h => h.1.seq ha) ?_ ?_
    · rintro i x H' H2 hi ⟨s', hD'⟩ ⟨rfl, hx⟩
      rw [List.length_map] at hi
      have ex : x = V.str zs[i] := by
        rw [List.getElem?_map, List.getElem?_eq_getElem hi] at hx
        exact (Option.some.inj hx).symm
      subst ex
      refine ⟨rfl, yes_it ?_⟩
      refine ⟨_, rfl, _, rfl, zs[i], _, rfl, hD', ?_, ?_, ?_⟩
      · have h1 := once_len (zs.take i)
        rw [List.length_take] at h1
        exact Nat.lt_of_le_of_lt (show (once (zs.take i)).length + 1 ≤ 1001 by omega) (by decide)
      · exact fun b o e => by rw [upd_ne (ne_of_none e hD)]; exact s' b o e
      · rw [upd_same, List.take_succ, List.getElem?_eq_getElem hi]
        show some (TSetO w D (addT (once (zs.take i)) zs[i])) = some (TSetO w D (once (zs.take i ++ [zs[i]])))
        rw [once_snoc]
    · rintro H' ⟨s', hD'⟩
      rw [List.length_map, List.take_length] at hD'
      have h1 := once_len zs
      refine ⟨D, _, rfl, hD', by omega, fun ys p hp hs hn => ?_⟩
      refine q p _ ys (s'.free hn) (s'.trans (Same.new hn)) upd_same (asc_of_sorted hs (hp.nodup_iff.mpr (once_nodup zs))) (fun z => by rw [hp.mem_iff, once_mem]) (by rw [hp.length_eq]; exact h1)
end
end Cs

set_option Elab.async false
set_option linter.all false
set_option maxRecDepth 100000
set_option maxHeartbeats 4000000
/-! [e for x in xs] by the values of e. -/
namespace Cs
open PySem L2
theorem same_new {H : Hp} {a : Addr} {o : HO} (h : H a = none) : Same H (upd H a o) := fun b u e => by rw [upd_ne (ne_of_none e h)]; exact e
theorem yes_of {σ : L2.St} {H : Hp} {A B : Hp → Prop} (h : A H) : tYes σ H (fun b H3 => if b = true then A H3 else B H3) := iteT (A := A H) (B := B H) h
section
variable {K : PySem.W.Frag} {a : Addr} {xs ys : List V} {j : Nat} {te : TE} {vs : List Nat} {σ : L2.St} {H1 : Hp} {D : Addr} {Qd : Hp → Prop}
theorem lc_vals (hy : ys.length = xs.length) (ha : H1 a = some (.lst xs)) (hD : H1 D = none) (hl : xs.length ≤ 1000) (hw : ∀ x, wipe ((wipe σ vs).set j (some x)) vs = wipe σ vs)
    (he : ∀ (i : Nat) (x y : V), xs[i]? = some x → ys[i]? = some y → ∀ H', Same H1 H' → ∀ Qe : VK, (∀ H'', Same H' H'' → Qe y H'') → te ((wipe σ vs).set j (some x)) H' Qe)
    (k : ∀ H', Same H1 H' → H' D = some (.lst ys) → Qd H') :
    ∃ W : Nat → Nat → Hp → Prop, (∃ m, W 0 m (upd H1 D (.lst []))) ∧ ∀ i m H, W i m H →
      ((Itl K a).stop i H ∧ Qd H) ∨ ((Itl K a).go i H ∧ ∃ Nx : Hp → Prop, (∀ H', Nx H' → ∃ m', m' < m ∧ W (i + 1) m' H') ∧ ∀ x H', (Itl K a).yld i H x H' → gName j x (wipe σ vs) H' fun σ2 H2 => wipe σ2 vs = wipe σ vs ∧ tYes σ2 H2 fun b H3 =>
        if b = true then te σ2 H3 fun y H4 => ∃ acc, H4 D = some (.lst acc) ∧ acc.length < sizeLine ∧ Nx (upd H4 D (.lst (acc ++ [y]))) else Nx H3) := by
  refine lc_it (walk_list (xs := xs)) (fun i H' => Same H1 H' ∧ H' D = some (.lst (ys.take i))) ⟨same_new hD, upd_same⟩ (fun i H' _ h => SqL.of (h.1 _ _ ha)) ?_ ?_
  · rintro i x H' H2 hi ⟨s', hD'⟩ ⟨rfl, hx⟩
    have hi2 : i < ys.length := by omega
    refine ⟨hw _, yes_of ?_⟩
    refine he i x ys[i] hx (List.getElem?_eq_getElem hi2) H2 s' _ fun H3 s3 => ?_
    refine ⟨_, s3 _ _ hD', ?_, fun b o q => ?_, ?_⟩
    · rw [List.length_take]
      exact Nat.lt_of_le_of_lt (show min i ys.length ≤ 1000 by omega) (by decide)
    · rw [upd_ne (ne_of_none q hD)]
      exact s3 _ _ (s' _ _ q)
    · rw [upd_same, List.take_succ, List.getElem?_eq_getElem hi2]
      rfl
  · rintro H' ⟨s', hD'⟩
    rw [← hy, List.take_length] at hD'
    exact k H' s' hD'
/-- the same over a tuple -/
theorem lc_valsT (hy : ys.length = xs.length) (ha : H1 a = some (.tup xs)) (hD : H1 D = none) (hl : xs.length ≤ 1000) (hw : ∀ x, wipe ((wipe σ vs).set j (some x)) vs = wipe σ vs)
    (he : ∀ (i : Nat) (x y : V), xs[i]? = some x → ys[i]? = some y → ∀ H', Same H1 H' → ∀ Qe : VK, (∀ H'', Same H' H'' → Qe y H'') → te ((wipe σ vs).set j (some x)) H' Qe)
    (k : ∀ H', Same H1 H' → H' D = some (.lst ys) → Qd H') :
    ∃ W : Nat → Nat → Hp → Prop, (∃ m, W 0 m (upd H1 D (.lst []))) ∧ ∀ i m H, W i m H →
      ((Itt K a).stop i H ∧ Qd H) ∨ ((Itt K a).go i H ∧ ∃ Nx : Hp → Prop, (∀ H', Nx H' → ∃ m', m' < m ∧ W (i + 1) m' H') ∧ ∀ x H', (Itt K a).yld i H x H' → gName j x (wipe σ vs) H' fun σ2 H2 => wipe σ2 vs = wipe σ vs ∧ tYes σ2 H2 fun b H3 =>
        if b = true then te σ2 H3 fun y H4 => ∃ acc, H4 D = some (.lst acc) ∧ acc.length < sizeLine ∧ Nx (upd H4 D (.lst (acc ++ [y]))) else Nx H3) := by
  refine lc_it (walk_tup (xs := xs)) (fun i H' => Same H1 H' ∧ H' D = some (.lst (ys.take i))) ⟨same_new hD, upd_same⟩ (fun i H' _ h => SqT.of (h.1 _ _ ha)) ?_ ?_
  · rintro i x H' H2 hi ⟨s', hD'⟩ ⟨rfl, hx⟩
    have hi2 : i < ys.length := by omega
    refine ⟨hw _, yes_of ?_⟩
    refine he i x ys[i] hx (List.getElem?_eq_getElem hi2) H2 s' _ fun H3 s3 => ?_
    refine ⟨_, s3 _ _ hD', ?_, fun b o q => ?_, ?_⟩
    · rw [List.length_take]
      exact Nat.lt_of_le_of_lt (show min i ys.length ≤ 1000 by omega) (by decide)
    · rw [upd_ne (ne_of_none q hD)]
      exact s3 _ _ (s' _ _ q)
    · rw [upd_same, List.take_succ, List.getElem?_eq_getElem hi2]
      rfl
  · rintro H' ⟨s', hD'⟩
    rw [← hy, List.take_length] at hD'
    exact k H' s' hD'
end
end Cs

set_option Elab.async false
set_option linter.all false
set_option maxRecDepth 100000
set_option maxHeartbeats 4000000
/-! Comparisons of an own class: == by its own __eq__, != by object.__ne__; dicts of words and integers compared. -/
namespace Cs
open PySem PySem.Spec PyProof.Rows L2
section
variable {M : Model} {prog : Program} {w : World} {A : Around} {E : Value → Shared → Prop} {s : Shared} {K : PySem.W.Frag} {x C f : Addr} {ox : Obj} {od : Option Obj}
theorem ifBound_objNe {args : List Value} {Q : Option Value → Shared → Prop} (X : K.In s.heap) (I : PySem.W.InstAt s.heap x ox C od) (hs : PySem.W.findIn K (.ref C) "__ne__" = some (some (.builtin "object.__ne__")))
    (h : wpAny M A (call (.builtin "object.__ne__") (.ref x :: args)) (fun v => Q (some v)) E s) : wpAny M A (callSpecialIfBound? (.ref x) "__ne__" args) Q E s := by
  simp only [callSpecialIfBound?, bindSpecialIfBound?]
  refine wpAny_holding (wpAny_bind (wpAny_bind (wpAny_bind (I.type.here ((PySem.W.looks_findIn X hs).here ?_)))))
  refine wpAny_bind (wpAny_askSetting (wpAny_ite ?_))
  have fin : wpAny M A (call (.builtin "object.__ne__") ([.ref x] ++ args) >>= fun v => pure (some v)) Q E s := wpAny_bind (wpAny_mono h (fun v s' h' => wpAny_pure h') fun _ _ h' => h')
  split
  · exact wpAny_bind (wpAny_of_eq (F.cmp_object.ne.bind _) (wpAny_pure (by exact fin)))
  · exact wpAny_tryCatch (wpAny_bind (wpAny_of_eq (F.cmp_object.ne.bind _) (wpAny_pure (by exact fin))))
theorem objNe_own {b : Value} {Q : Fin → Shared → Prop} (hu : A.units < cLine) (X : K.In s.heap) (I : PySem.W.InstAt s.heap x ox C od) (hs : PySem.W.findIn K (.ref C) "__eq__" = some (some (.ref f))) (hf : PySem.W.isFn K (.ref f) = true)
    (h : wpAny (model prog w) A (call (.ref f) [.ref x, b]) (fun v s' => ∃ k, v = .bool k ∧ Q (.done (.ret (.bool (!k)))) s') E s) : wpAny (model prog w) A (Builtin.«object.__ne__» ⟨[.ref x, b], []⟩) Q E s := by
  unfold Builtin.«object.__ne__»
  repeat (first
    | with_reducible refine wpAny_cRoomFor hu ?_
    | (refine wpAny_bind (m := callSpecialIfBound? (.ref x) (Str.ofString "__eq__") [b])
        (PySem.W.ifBound_K X I hs hf (wpAny_mono h (fun r s' hr => by
          obtain ⟨b, rfl, hq⟩ := hr
          repeat (first | exact hq | exact wpAny_pure hq | exact wpAny_truthy_bool hq | (refine wpAny_bind (m := truthy (.bool _)) (wpAny_truthy_bool ?_)) | wp_step)) fun _ _ e => e)))
    | wp_step)
theorem call_objNe {b : Value} {Q : Value → Shared → Prop} (hu : A.units + 1 < cLine) (X : K.In s.heap) (I : PySem.W.InstAt s.heap x ox C od) (hm : PySem.W.mroIn K C (.type "object") = some true) (hs : PySem.W.findIn K (.ref C) "__eq__" = some (some (.ref f))) (hf : PySem.W.isFn K (.ref f) = true)
    (h : wpAny (model prog w) A.in1 (call (.ref f) [.ref x, b]) (fun v s' => ∃ k, v = .bool k ∧ Q (.bool (!k)) s') E s) : wpAny (model prog w) A (call (.builtin "object.__ne__") [.ref x, b]) Q E s :=
  wpAny_call (codeAny_call_builtin F.cmp_object.ne.plain F.cmpEntry_ne (PySem.W.check_slot F.cmpKind_ne F.cmpSplit_ne (I.type.andThen (PySem.W.looks_mroIn X hm)) (F.cmpArgs_ne _ _) (objNe_own (A := A.in1) hu X I hs hf (wpAny_mono h (fun v s' z => by
    obtain ⟨k, rfl, q⟩ := z
    exact ⟨k, rfl, q⟩) fun _ _ e => e))))
theorem ne_own {b tb : Value} {Q : Value → Shared → Prop} (hu : A.units + 1 < cLine) (X : K.In s.heap) (I : PySem.W.InstAt s.heap x ox C od) (hb : PySem.W.Looks (model prog w) s.heap (typeOf b) tb) (hn : PySem.W.notFirst K C tb = true)
    (hm : PySem.W.mroIn K C (.type "object") = some true) (hne : PySem.W.findIn K (.ref C) "__ne__" = some (some (.builtin "object.__ne__"))) (hs : PySem.W.findIn K (.ref C) "__eq__" = some (some (.ref f))) (hf : PySem.W.isFn K (.ref f) = true)
    (h : wpAny (model prog w) A.in1 (call (.ref f) [.ref x, b]) (fun v s' => ∃ k, v = .bool k ∧ Q (.bool (!k)) s') E s) : wpAny (model prog w) A (compareOp .NotEq (.ref x) b) Q E s := by
  have one : wpAny (model prog w) A (tryCompare (.ref x) "__ne__" b) (fun r s' => ∃ v, r = some v ∧ Q v s') E s := by
    unfold tryCompare
    refine wpAny_bind (ifBound_objNe X I hne (call_objNe hu X I hm hs hf (wpAny_mono h (fun v s' z => ?_) fun _ _ e => e)))
    obtain ⟨k, rfl, q⟩ := z
    exact ⟨k, rfl, wpAny_pure ⟨_, rfl, q⟩⟩
  show wpAny (model prog w) A (richCompare .NotEq (.ref x) b) Q E s
  unfold richCompare
  simp only [oneThing_ref]
  refine wpAny_holding (wpAny_bind (wpAny_cRoomFor (Nat.lt_of_succ_lt hu) ?_))
  refine wpAny_bind (I.type.here (wpAny_bind (hb.here ?_)))
  split
  · rename_i q
    have e : PySem.W.subIn K tb (.ref C) = some false := by
      rcases Bool.or_eq_true_iff.mp hn with e | e
      · rw [beq_iff_eq.mp e] at q; simp at q
      · exact beq_iff_eq.mp e
    refine wpAny_bind ((PySem.W.looks_subIn X e).here ?_)
    simp only [Bool.false_eq_true, if_false]
    refine wpAny_bind (wpAny_mono one (fun r s' z => ?_) fun _ _ e => e)
    obtain ⟨v, rfl, hq⟩ := z
    exact wpAny_pure hq
  · refine wpAny_bind (wpAny_pure ?_)
    simp only [Bool.false_eq_true, if_false]
    refine wpAny_bind (wpAny_mono one (fun r s' z => ?_) fun _ _ e => e)
    obtain ⟨v, rfl, hq⟩ := z
    exact wpAny_pure hq
end
section
variable {X : Cx} {CX : CXT} {k : Nat} {f C : Addr} {fd : FuncData} {ps : List Str} {sp : Sp} {E : XK}
/-- what == and != ask of the class -/
structure EqC (K : PySem.W.Frag) (C f : Addr) : Prop where
  at_ : PySem.W.findIn K (.ref C) "__eq__" = some (some (.ref f))
  fn : PySem.W.isFn K (.ref f) = true
  ne : PySem.W.findIn K (.ref C) "__ne__" = some (some (.builtin "object.__ne__"))
  hm : PySem.W.mroIn K C (.type "object") = some true
theorem first_self {K : PySem.W.Frag} : PySem.W.notFirst K C (.ref C) = true := by simp [PySem.W.notFirst]
def rEqO (C : Addr) (sp : Sp) (E : XK) : R2 := fun x y H Q => ∃ p q dp dq fp fq, x = .ref p ∧ y = .ref q ∧ H p = some (.ins C dp fp) ∧ H q = some (.ins C dq fq) ∧ sp [.ref p, .ref q] H Q E
def rNeO (C : Addr) (sp : Sp) (E : XK) : R2 := fun x y H Q => ∃ p q dp dq fp fq, x = .ref p ∧ y = .ref q ∧ H p = some (.ins C dp fp) ∧ H q = some (.ins C dq fq) ∧ sp [.ref p, .ref q] H (fun v H' => ∃ b, v = .bl b ∧ Q (.bl (!b)) H') E
theorem op_eqO (c : EqC X.K C f) (F : FnOk X.prog X.w X.K X.mg X.base CX k f fd ps sp) (hr : Room k X.A) (hb : Binds X.K fd ps []) (hx : Passes CX X E) : OpR X (compareOp .Eq) (rEqO C sp E) := by
  intro pins s σ H x y v u Q I rx ry h
  obtain ⟨p, q, dp, dq, fp, fq, rfl, rfl, hp, hq, k⟩ := h
  cases rx
  cases ry
  obtain ⟨ox, od, J, _⟩ := ins_inst I hp
  obtain ⟨oy, oe, J2, _⟩ := ins_inst I hq
  obtain ⟨m, Fr⟩ := I.fr
  show wpAny _ _ (richCompare .Eq (.ref p) (.ref q)) _ _ _
  refine PySem.W.cmp_K (op := .Eq) (tb := .ref C) hr.units0 Fr I.ok.mod.kin J J2.type first_self c.at_ c.fn ?_
  exact wpAny_mono (run_fn (us := [.ref p, .ref q]) (vs := [.ref p, .ref q]) (dvs := []) F hr hb .nil hx I (.cons rfl (.cons rfl .nil)) k) (fun v s' z => back_of z) fun _ _ z => z
theorem op_neO (c : EqC X.K C f) (F : FnOk X.prog X.w X.K X.mg X.base CX k f fd ps sp) (hr : Room (k + 1) X.A) (hb : Binds X.K fd ps []) (hx : Passes CX X E) : OpR X (compareOp .NotEq) (rNeO C sp E) := by
  intro pins s σ H x y v u Q I rx ry h
  obtain ⟨p, q, dp, dq, fp, fq, rfl, rfl, hp, hq, k⟩ := h
  cases rx
  cases ry
  obtain ⟨ox, od, J, _⟩ := ins_inst I hp
  obtain ⟨oy, oe, J2, _⟩ := ins_inst I hq
  refine ne_own (hu_of hr) I.kIn J J2.type first_self c.hm c.ne c.at_ c.fn ?_
  refine wpAny_mono (run_fn1 (us := [.ref p, .ref q]) (vs := [.ref p, .ref q]) F hr hb hx I (.cons rfl (.cons rfl .nil)) k) (fun v s' z => ?_) fun _ _ z => z
  obtain ⟨v', H', I', rv, b, rfl, qq⟩ := z
  cases rv
  exact ⟨b, rfl, .bl (!b), H', I', rfl, qq⟩
end
/-! ### dicts of words and integers -/
def allIn (t u : Tab) : Bool := t.all fun q => decide (look u q.1 = some q.2)
theorem hits_tab {A : Around} {s : Shared} {u : Tab} {vb : List (Key × Value)} (rb : KV (tv u) vb) : ∀ {t : Tab} {va : List (Key × Value)}, KV (tv t) va → PySem.W.KeqHits A s vb va (allIn t u)
  | [], _, .nil => .nil
  | q :: t, (k, v) :: va, .cons ⟨h1, h2⟩ r => by
    have h1' : (Sum.inr q.1 : Key) = k := h1
    obtain ⟨tk, rfl⟩ : ∃ tk, v = Value.int q.2 tk := h2
    subst h1'
    have rr : RelO (valV (tv u) (Sum.inr q.1)) (valueAt vb (Sum.inr q.1)) := rb.val _
    rw [tv_val] at rr
    have e : allIn (q :: t) u = (decide (look u q.1 = some q.2) && allIn t u) := rfl
    rw [e]
    cases hl : look u q.1 with
    | none =>
      rw [hl] at rr
      rw [show decide ((none : Option Int) = some q.2) = false from rfl, Bool.false_and]
      exact .miss (by cases hv : valueAt vb (Sum.inr q.1 : Key) with
        | none => rfl
        | some y => rw [hv] at rr; exact absurd rr (by intro z; cases z))
    | some n =>
      rw [hl] at rr
      obtain ⟨y, hy, ry⟩ := RelO.some_of rr
      obtain ⟨tk2, rfl⟩ : ∃ tk, y = Value.int n tk := ry
      have e2 : decide (some n = some q.2) = (q.2 == n) := by
        by_cases c : q.2 = n
        · rw [c]
          simp
        · rw [decide_eq_false (fun z => c (Option.some.inj z).symm)]
          exact (beq_eq_false_iff_ne.mpr c).symm
      rw [e2]
      exact .hit hy (SeqAt.EqAt.int_int _ _ _ _) (hits_tab rb r)
section
variable {X : Cx}
def rEqT : R2 := fun x y H Q => ∃ a b t u, x = .ref a ∧ y = .ref b ∧ H a = some (.dK (tv t)) ∧ H b = some (.dK (tv u)) ∧ Q (.bl (t.length == u.length && allIn t u)) H
def rNeT : R2 := fun x y H Q => ∃ a b t u, x = .ref a ∧ y = .ref b ∧ H a = some (.dK (tv t)) ∧ H b = some (.dK (tv u)) ∧ Q (.bl (!(t.length == u.length && allIn t u))) H
theorem op_eqT (hu : X.A.units < cLine) : OpR X (compareOp .Eq) rEqT := by
  intro pins s σ H x y v u Q I rx ry h
  obtain ⟨a, b, t, u', rfl, rfl, ea, eb, q⟩ := h
  obtain rfl : v = Value.ref a := rx
  obtain rfl : u = Value.ref b := ry
  obtain ⟨_, ya, va, ra, da⟩ := (show ObjOk X.prog X.w H s.heap a (.dK (tv t)) from I.hok a _ ea)
  obtain ⟨_, yb, vb, rb, db⟩ := (show ObjOk X.prog X.w H s.heap b (.dK (tv u')) from I.hok b _ eb)
  have h1 : va.length = t.length := by rw [← ra.length]; exact tv_len t
  have h2 : vb.length = u'.length := by rw [← rb.length]; exact tv_len u'
  exact PySem.W.keq_eq (knd := mixKind X.prog X.w) (r := allIn t u') ya yb da db hu (fun _ => hits_tab rb ra) (fin_bl I q (by rw [h1, h2]))
theorem op_neT (hu : X.A.units < cLine) : OpR X (compareOp .NotEq) rNeT := by
  intro pins s σ H x y v u Q I rx ry h
  obtain ⟨a, b, t, u', rfl, rfl, ea, eb, q⟩ := h
  obtain rfl : v = Value.ref a := rx
  obtain rfl : u = Value.ref b := ry
  obtain ⟨_, ya, va, ra, da⟩ := (show ObjOk X.prog X.w H s.heap a (.dK (tv t)) from I.hok a _ ea)
  obtain ⟨_, yb, vb, rb, db⟩ := (show ObjOk X.prog X.w H s.heap b (.dK (tv u')) from I.hok b _ eb)
  have h1 : va.length = t.length := by rw [← ra.length]; exact tv_len t
  have h2 : vb.length = u'.length := by rw [← rb.length]; exact tv_len u'
  exact PySem.W.keq_ne (knd := mixKind X.prog X.w) (r := allIn t u') ya yb da db hu (fun _ => hits_tab rb ra) (fin_bl I q (by rw [h1, h2]))
end
end Cs

set_option Elab.async false
set_option linter.all false
set_option maxRecDepth 100000
set_option maxHeartbeats 4000000
/-! Order of an own class: <= < by its own methods, >= > by those of the other side; == and != with a value of a built-in type. -/
namespace Cs
open PySem PySem.Spec PyProof.Rows L2
section
variable {M : Model} {prog : Program} {w : World} {A : Around} {E : Value → Shared → Prop} {s : Shared} {K : PySem.W.Frag} {x y C f : Addr} {ox oy : Obj} {od oe : Option Obj}
theorem ifBound_obj {nm : Str} {id : String} {args : List Value} {Q : Option Value → Shared → Prop} (S : Slot "object" nm id) (X : K.In s.heap) (I : PySem.W.InstAt s.heap x ox C od) (hs : PySem.W.findIn K (.ref C) nm = some (some (.builtin id)))
    (h : wpAny M A (call (.builtin id) (.ref x :: args)) (fun v => Q (some v)) E s) : wpAny M A (callSpecialIfBound? (.ref x) nm args) Q E s := by
  simp only [callSpecialIfBound?, bindSpecialIfBound?]
  refine wpAny_holding (wpAny_bind (wpAny_bind (wpAny_bind (I.type.here ((PySem.W.looks_findIn X hs).here ?_)))))
  refine wpAny_bind (wpAny_askSetting (wpAny_ite ?_))
  have fin : wpAny M A (call (.builtin id) ([.ref x] ++ args) >>= fun v => pure (some v)) Q E s := wpAny_bind (wpAny_mono h (fun v s' h' => wpAny_pure h') fun _ _ h' => h')
  split
  · exact wpAny_bind (wpAny_of_eq (S.bind _) (wpAny_pure (by exact fin)))
  · exact wpAny_tryCatch (wpAny_bind (wpAny_of_eq (S.bind _) (wpAny_pure (by exact fin))))
theorem kind_ge : builtinKind "object.__ge__" = some .slot := by decide +kernel
theorem kind_gt : builtinKind "object.__gt__" = some .slot := by decide +kernel
theorem split_ge : splitId "object.__ge__" = some ("object", "__ge__") := by decide +kernel
theorem split_gt : splitId "object.__gt__" = some ("object", "__gt__") := by decide +kernel
theorem try_ge {b : Value} {Q : Option Value → Shared → Prop} (X : K.In s.heap) (I : PySem.W.InstAt s.heap x ox C od) (hm : PySem.W.mroIn K C (.type "object") = some true) (hs : PySem.W.findIn K (.ref C) "__ge__" = some (some (.builtin "object.__ge__"))) (h : Q none s) :
    wpAny (model prog w) A (tryCompare (.ref x) "__ge__" b) Q E s := by
  unfold tryCompare
  refine wpAny_bind (ifBound_obj PySem.F.slot_object_ge X I hs (wpAny_call (codeAny_call_builtin PySem.F.slot_object_ge.plain PySem.F.entry_object_ge (PySem.W.check_slot kind_ge split_ge (I.type.andThen (PySem.W.looks_mroIn X hm)) (PySem.F.args_object_ge_2 _ _) ?_))))
  show wpAny _ _ (slotArgs "__ge__" 1 ⟨[.ref x, b], []⟩ >>= fun _ => ret .notImplemented) _ _ _
  refine wpAny_bind (wpAny_of_eq (a := (.ref x, [b])) (by rfl) ?_)
  refine wpAny_pure ?_
  exact wpAny_pure h
theorem try_gt {b : Value} {Q : Option Value → Shared → Prop} (X : K.In s.heap) (I : PySem.W.InstAt s.heap x ox C od) (hm : PySem.W.mroIn K C (.type "object") = some true) (hs : PySem.W.findIn K (.ref C) "__gt__" = some (some (.builtin "object.__gt__"))) (h : Q none s) :
    wpAny (model prog w) A (tryCompare (.ref x) "__gt__" b) Q E s := by
  unfold tryCompare
  refine wpAny_bind (ifBound_obj PySem.F.slot_object_gt X I hs (wpAny_call (codeAny_call_builtin PySem.F.slot_object_gt.plain PySem.F.entry_object_gt (PySem.W.check_slot kind_gt split_gt (I.type.andThen (PySem.W.looks_mroIn X hm)) (PySem.F.args_object_gt_2 _ _) ?_))))
  show wpAny _ _ (slotArgs "__gt__" 1 ⟨[.ref x, b], []⟩ >>= fun _ => ret .notImplemented) _ _ _
  refine wpAny_bind (wpAny_of_eq (a := (.ref x, [b])) (by rfl) ?_)
  refine wpAny_pure ?_
  exact wpAny_pure h
/-- x >= y, x > y: the other side's own method answers -/
theorem refl_own {op : CmpOp} {Q : Value → Shared → Prop} (hu : A.units < cLine) (X : K.In s.heap) (I : PySem.W.InstAt s.heap x ox C od) (J : PySem.W.InstAt s.heap y oy C oe)
    (dec : ∀ Q' : Option Value → Shared → Prop, Q' none s → wpAny (model prog w) A (tryCompare (.ref x) (cmpInfo op).2.1 (.ref y)) Q' E s)
    (hs : PySem.W.findIn K (.ref C) (cmpInfo op).2.2 = some (some (.ref f))) (hf : PySem.W.isFn K (.ref f) = true)
    (h : wpAny (model prog w) A (call (.ref f) [.ref y, .ref x]) (PySem.W.CmpBack Q) E s) : wpAny (model prog w) A (richCompare op (.ref x) (.ref y)) Q E s := by
  have one : wpAny (model prog w) A (tryCompare (.ref y) (cmpInfo op).2.2 (.ref x)) (fun r s' => ∃ v, r = some v ∧ Q v s') E s := by
    unfold tryCompare
    refine wpAny_bind (PySem.W.ifBound_K X J hs hf (wpAny_mono h (fun v s' hv => ?_) fun _ _ e => e))
    cases v <;> first | exact hv.elim | exact wpAny_pure ⟨_, rfl, hv⟩
  unfold richCompare
  simp only [oneThing_ref]
  refine wpAny_holding (wpAny_bind (wpAny_cRoomFor hu ?_))
  refine wpAny_bind (I.type.here (wpAny_bind (J.type.here ?_)))
  have hne : (Value.ref C != Value.ref C) = false := by simp
  simp only [hne, Bool.false_eq_true, if_false]
  refine wpAny_bind (wpAny_pure ?_)
  simp only [Bool.false_eq_true, if_false]
  refine wpAny_bind (dec _ ?_)
  dsimp only
  simp only [Bool.not_false, if_true]
  refine wpAny_bind (wpAny_mono one (fun r s' z => ?_) fun _ _ e => e)
  obtain ⟨v, rfl, hq⟩ := z
  exact wpAny_pure hq
end
section
variable {X : Cx} {CX : CXT} {k : Nat} {f C : Addr} {fd : FuncData} {ps : List Str} {sp : Sp} {E : XK}
/-- what the order asks of the class -/
structure OrC (K : PySem.W.Frag) (C fle flt : Addr) : Prop where
  le : PySem.W.findIn K (.ref C) "__le__" = some (some (.ref fle))
  lef : PySem.W.isFn K (.ref fle) = true
  lt : PySem.W.findIn K (.ref C) "__lt__" = some (some (.ref flt))
  ltf : PySem.W.isFn K (.ref flt) = true
  ge : PySem.W.findIn K (.ref C) "__ge__" = some (some (.builtin "object.__ge__"))
  gt : PySem.W.findIn K (.ref C) "__gt__" = some (some (.builtin "object.__gt__"))
  hm : PySem.W.mroIn K C (.type "object") = some true
def rCmpR (C : Addr) (sp : Sp) (E : XK) : R2 := fun x y H Q => ∃ p q dp dq fp fq, x = .ref p ∧ y = .ref q ∧ H p = some (.ins C dp fp) ∧ H q = some (.ins C dq fq) ∧ sp [.ref q, .ref p] H Q E
theorem op_leO {g : Addr} (c : OrC X.K C f g) (F : FnOk X.prog X.w X.K X.mg X.base CX k f fd ps sp) (hr : Room k X.A) (hb : Binds X.K fd ps []) (hx : Passes CX X E) : OpR X (compareOp .LtE) (rEqO C sp E) := by
  intro pins s σ H x y v u Q I rx ry h
  obtain ⟨p, q, dp, dq, fp, fq, rfl, rfl, hp, hq, k⟩ := h
  cases rx
  cases ry
  obtain ⟨ox, od, J, _⟩ := ins_inst I hp
  obtain ⟨oy, oe, J2, _⟩ := ins_inst I hq
  obtain ⟨m, Fr⟩ := I.fr
  show wpAny _ _ (richCompare .LtE (.ref p) (.ref q)) _ _ _
  refine PySem.W.cmp_K (op := .LtE) (tb := .ref C) hr.units0 Fr I.ok.mod.kin J J2.type first_self c.le c.lef ?_
  exact wpAny_mono (run_fn (us := [.ref p, .ref q]) (vs := [.ref p, .ref q]) (dvs := []) F hr hb .nil hx I (.cons rfl (.cons rfl .nil)) k) (fun v s' z => back_of z) fun _ _ z => z
theorem op_ltO {g : Addr} (c : OrC X.K C g f) (F : FnOk X.prog X.w X.K X.mg X.base CX k f fd ps sp) (hr : Room k X.A) (hb : Binds X.K fd ps []) (hx : Passes CX X E) : OpR X (compareOp .Lt) (rEqO C sp E) := by
  intro pins s σ H x y v u Q I rx ry h
  obtain ⟨p, q, dp, dq, fp, fq, rfl, rfl, hp, hq, k⟩ := h
  cases rx
  cases ry
  obtain ⟨ox, od, J, _⟩ := ins_inst I hp
  obtain ⟨oy, oe, J2, _⟩ := ins_inst I hq
  obtain ⟨m, Fr⟩ := I.fr
  show wpAny _ _ (richCompare .Lt (.ref p) (.ref q)) _ _ _
  refine PySem.W.cmp_K (op := .Lt) (tb := .ref C) hr.units0 Fr I.ok.mod.kin J J2.type first_self c.lt c.ltf ?_
  exact wpAny_mono (run_fn (us := [.ref p, .ref q]) (vs := [.ref p, .ref q]) (dvs := []) F hr hb .nil hx I (.cons rfl (.cons rfl .nil)) k) (fun v s' z => back_of z) fun _ _ z => z
theorem op_geO {g : Addr} (c : OrC X.K C f g) (F : FnOk X.prog X.w X.K X.mg X.base CX k f fd ps sp) (hr : Room k X.A) (hb : Binds X.K fd ps []) (hx : Passes CX X E) : OpR X (compareOp .GtE) (rCmpR C sp E) := by
  intro pins s σ H x y v u Q I rx ry h
  obtain ⟨p, q, dp, dq, fp, fq, rfl, rfl, hp, hq, k⟩ := h
  cases rx
  cases ry
  obtain ⟨ox, od, J, _⟩ := ins_inst I hp
  obtain ⟨oy, oe, J2, _⟩ := ins_inst I hq
  show wpAny _ _ (richCompare .GtE (.ref p) (.ref q)) _ _ _
  refine refl_own (op := .GtE) hr.units0 I.kIn J J2 (fun Q' q => try_ge I.kIn J c.hm c.ge q) c.le c.lef ?_
  exact wpAny_mono (run_fn (us := [.ref q, .ref p]) (vs := [.ref q, .ref p]) (dvs := []) F hr hb .nil hx I (.cons rfl (.cons rfl .nil)) k) (fun v s' z => back_of z) fun _ _ z => z
theorem op_gtO {g : Addr} (c : OrC X.K C g f) (F : FnOk X.prog X.w X.K X.mg X.base CX k f fd ps sp) (hr : Room k X.A) (hb : Binds X.K fd ps []) (hx : Passes CX X E) : OpR X (compareOp .Gt) (rCmpR C sp E) := by
  intro pins s σ H x y v u Q I rx ry h
  obtain ⟨p, q, dp, dq, fp, fq, rfl, rfl, hp, hq, k⟩ := h
  cases rx
  cases ry
  obtain ⟨ox, od, J, _⟩ := ins_inst I hp
  obtain ⟨oy, oe, J2, _⟩ := ins_inst I hq
  show wpAny _ _ (richCompare .Gt (.ref p) (.ref q)) _ _ _
  refine refl_own (op := .Gt) hr.units0 I.kIn J J2 (fun Q' q => try_gt I.kIn J c.hm c.gt q) c.lt c.ltf ?_
  exact wpAny_mono (run_fn (us := [.ref q, .ref p]) (vs := [.ref q, .ref p]) (dvs := []) F hr hb .nil hx I (.cons rfl (.cons rfl .nil)) k) (fun v s' z => back_of z) fun _ _ z => z
/-- == and != with a value of a built-in type -/
def rEqY (K : PySem.W.Frag) (C : Addr) (sp : Sp) (E : XK) : R2 := fun x y H Q => ∃ p dp fp ty, x = .ref p ∧ H p = some (.ins C dp fp) ∧ TyX K H y (.type ty) ∧ PySem.W.subIn K (.type ty) (.ref C) = some false ∧ sp [.ref p, y] H Q E
def rNeY (K : PySem.W.Frag) (C : Addr) (sp : Sp) (E : XK) : R2 := fun x y H Q => ∃ p dp fp ty, x = .ref p ∧ H p = some (.ins C dp fp) ∧ TyX K H y (.type ty) ∧ PySem.W.subIn K (.type ty) (.ref C) = some false ∧ sp [.ref p, y] H (fun v H' => ∃ b, v = .bl b ∧ Q (.bl (!b)) H') E
theorem not_first {K : PySem.W.Frag} {ty : String} (h : PySem.W.subIn K (.type ty) (.ref C) = some false) : PySem.W.notFirst K C (.type ty) = true := by
  unfold PySem.W.notFirst
  rw [h]
  simp
theorem op_eqY (c : EqC X.K C f) (F : FnOk X.prog X.w X.K X.mg X.base CX k f fd ps sp) (hr : Room k X.A) (hb : Binds X.K fd ps []) (hx : Passes CX X E) : OpR X (compareOp .Eq) (rEqY X.K C sp E) := by
  intro pins s σ H x y v u Q I rx ry h
  obtain ⟨p, dp, fp, ty, rfl, hp, hy, hs, k⟩ := h
  cases rx
  obtain ⟨ox, od, J, _⟩ := ins_inst I hp
  obtain ⟨P, Z, hP, _⟩ := kit_of I ry hy
  obtain ⟨m, Fr⟩ := I.fr
  show wpAny _ _ (richCompare .Eq (.ref p) u) _ _ _
  refine PySem.W.cmp_K (op := .Eq) (tb := .type ty) hr.units0 Fr I.ok.mod.kin J (Z.ty _ _ I.kIn hP) (not_first hs) c.at_ c.fn ?_
  exact wpAny_mono (run_fn (us := [.ref p, u]) (vs := [.ref p, y]) (dvs := []) F hr hb .nil hx I (.cons rfl (.cons ry .nil)) k) (fun v s' z => back_of z) fun _ _ z => z
theorem op_neY (c : EqC X.K C f) (F : FnOk X.prog X.w X.K X.mg X.base CX k f fd ps sp) (hr : Room (k + 1) X.A) (hb : Binds X.K fd ps []) (hx : Passes CX X E) : OpR X (compareOp .NotEq) (rNeY X.K C sp E) := by
  intro pins s σ H x y v u Q I rx ry h
  obtain ⟨p, dp, fp, ty, rfl, hp, hy, hs, k⟩ := h
  cases rx
  obtain ⟨ox, od, J, _⟩ := ins_inst I hp
  obtain ⟨P, Z, hP, _⟩ := kit_of I ry hy
  refine ne_own (hu_of hr) I.kIn J (Z.ty _ _ I.kIn hP) (not_first hs) c.hm c.ne c.at_ c.fn ?_
  refine wpAny_mono (run_fn1 (us := [.ref p, u]) (vs := [.ref p, y]) F hr hb hx I (.cons rfl (.cons ry .nil)) k) (fun v s' z => ?_) fun _ _ z => z
  obtain ⟨v', H', I', rv, b, rfl, qq⟩ := z
  cases rv
  exact ⟨b, rfl, .bl (!b), H', I', rfl, qq⟩
end
end Cs

set_option Elab.async false
set_option linter.all false
set_option maxRecDepth 100000
set_option maxHeartbeats 4000000
/-! repr(o) by an own __repr__. -/
namespace Cs
open PySem PySem.Spec PyProof.Rows L2
/-- isinstance by the class's own facts -/
theorem kit_by {K : PySem.W.Frag} {C : Addr} {t : Value} {b : Bool} (h1 : PySem.W.isClsIn K C = true) (h2 : PySem.W.typeIn K (.ref C) = some (.type "type")) (h : PySem.W.subIn K t (.ref C) = some b) (hn : (t == Value.ref C) = false) : PySem.W.kitOne K t (.ref C) = some b := by
  have h1' : (PySem.W.clsIn K C).isSome = true := h1
  unfold PySem.W.kitOne PySem.W.kitCls
  simp [hn, h1', h2, h]
theorem kit_ty0 {K : PySem.W.Frag} {C : Addr} {ty : String} {b : Bool} (h1 : PySem.W.isClsIn K C = true) (h2 : PySem.W.typeIn K (.ref C) = some (.type "type")) (h : PySem.W.subIn K (.type ty) (.ref C) = some b) : PySem.W.kitOne K (.type ty) (.ref C) = some b :=
  kit_by h1 h2 h (beq_eq_false_iff_ne.mpr fun q => by cases q)
/-- an f-string's reading by a name -/
def tJn (ts : List TE) : TE := fun σ H Q => tJs ts Str.empty σ H fun out H1 => Q (.str out) H1
theorem pe_jn {X : Cx} {v1 v2 : Expr} {rest : List Expr} {ts : List TE} {pos : Pos} (h : PJ X (v1 :: v2 :: rest) ts) : PE X (.JoinedStr (v1 :: v2 :: rest) pos) (tJn ts) := pe_joined h
section
variable {X : Cx} {CX : CXT} {k : Nat} {f C : Addr} {fd : FuncData} {ps : List Str} {sp : Sp} {E : XK}
def rReprO (C : Addr) (sp : Sp) (E : XK) : List V → Hp → VK → Prop := fun xs H Q => ∃ a dx fs, xs = [.ref a] ∧ H a = some (.ins C dx fs) ∧ sp [.ref a] H (fun v H2 => ∃ z : Str, v = .str z ∧ Q (.str z) H2) E
theorem call_reprO (c : Spc X.K C "__repr__" f) (F : FnOk X.prog X.w X.K X.mg X.base CX k f fd ps sp) (hr : Room (k + 1) X.A) (hb : Binds X.K fd ps []) (hx : Passes CX X E) : CallR X (.builtin "repr") (rReprO C sp E) := by
  intro pins s σ H xs us Q I r h
  obtain ⟨a, dx, fs, rfl, ha, q⟩ := h
  rw [Vals.ref1 r]
  obtain ⟨ox, od, J, _⟩ := ins_inst I ha
  obtain ⟨m, Fr⟩ := I.fr
  refine PySem.W.repr_K (hu_of hr) Fr I.ok.mod.kin J c.at_ c.fn (wpAny_mono (run_fn1 (us := [.ref a]) (vs := [.ref a]) F hr hb hx I (.cons rfl .nil) q) (fun v s' z => ?_) fun _ _ z => z)
  obtain ⟨v0, H2, I2, rv, n, e, q2⟩ := z
  subst e
  obtain ⟨tk, rfl⟩ := rv
  exact ⟨.str n, H2, I2, ⟨tk, rfl⟩, q2⟩
end
end Cs

set_option Elab.async false
set_option linter.all false
set_option maxRecDepth 100000
set_option maxHeartbeats 4000000
/-! list(text); x in o, bool(o) by own methods; C(k1=v1, ..) where __init__ takes **d. -/
namespace Cs
open PySem PySem.Spec PyProof.Rows L2
/-- the signs of a text -/
def signsV (z : Str) : List V := z.cps.toList.map fun c => V.str ⟨#[c]⟩
theorem vals_pw : ∀ {xs : List V} {us : List Value}, xs.length = us.length → (∀ (i : Nat) x u, xs[i]? = some x → us[i]? = some u → RelV x u) → Vals xs us
  | [], [], _, _ => .nil
  | x :: xs, u :: us, hl, h => .cons (h 0 x u rfl rfl) (vals_pw (Nat.succ.inj hl) fun i a b ha hb => h (i + 1) a b ha hb)
  | [], _ :: _, hl, _ => by cases hl
  | _ :: _, [], hl, _ => by cases hl
section
variable {X : Cx} {CX : CXT} {k : Nat} {f C : Addr} {fd : FuncData} {ps : List Str} {sp : Sp} {E : XK}
theorem call_listS (hc : X.calm = true) : CallR X (.type "list") (fun xs H Q => ∃ z : Str, xs = [.str z] ∧ z.length ≤ sizeLine ∧ ∀ q, H q = none → Q (.ref q) (upd H q (.lst (signsV z)))) := by
  intro pins s σ H xs us Q I r h
  obtain ⟨z, rfl, hz, q⟩ := h
  obtain ⟨tk, rfl⟩ : ∃ tk, us = [Value.str z tk] := by
    cases r with
    | cons r rr =>
      cases rr
      obtain ⟨tk, rfl⟩ := r
      exact ⟨tk, rfl⟩
  refine call_list_str (I.ok.hd hc) z tk (hn := hz) fun h' tk' acc c' hk e' hi => ?_
  have hl : acc.toList.length = z.cps.size := by rw [Array.length_toList]; exact hi.1
  refine ⟨.ref s.heap.objs.size, upd H s.heap.objs.size (.lst (signsV z)), I.laid hk (Nat.le_refl _) (show ObjOk X.prog X.w _ _ _ (.lst (signsV z)) from ⟨?_, acc.toList, c', vals_pw ?_ fun i x u hx hu => ?_, ?_⟩), rfl, q _ (I.hok.fresh (Nat.le_refl _))⟩
  · unfold signsV
    rw [List.length_map, Array.length_toList]
    exact hz
  · unfold signsV
    rw [List.length_map, Array.length_toList]
    exact hl.symm
  · obtain ⟨c, u', hc', rfl⟩ := hi.2 i u (by rw [← Array.getElem?_toList]; exact hu)
    unfold signsV at hx
    rw [List.getElem?_map, Array.getElem?_toList, hc'] at hx
    cases hx
    exact ⟨u', rfl⟩
  · rw [Array.toArray_toList]
    exact e'
/-- x in o -/
def rInO (C : Addr) (sp : Sp) (E : XK) : R2 := fun x y H Q => ∃ p dp fp, y = .ref p ∧ H p = some (.ins C dp fp) ∧ sp [.ref p, x] H (fun v H2 => ∃ b, v = .bl b ∧ Q (.bl b) H2) E
theorem op_inO (c : Spc X.K C "__contains__" f) (F : FnOk X.prog X.w X.K X.mg X.base CX k f fd ps sp) (hr : Room k X.A) (hb : Binds X.K fd ps []) (hx : Passes CX X E) : OpR X (compareOp .In) (rInO C sp E) := by
  intro pins s σ H x y v u Q I rx ry h
  obtain ⟨p, dp, fp, rfl, hp, k⟩ := h
  cases ry
  obtain ⟨ox, od, J, _⟩ := ins_inst I hp
  obtain ⟨m, Fr⟩ := I.fr
  refine PySem.W.in_K Fr I.ok.mod.kin J c.at_ c.fn ?_
  refine wpAny_mono (run_fn (us := [.ref p, v]) (vs := [.ref p, x]) (dvs := []) F hr hb .nil hx I (.cons rfl (.cons rx .nil)) k) (fun v s' z => ?_) fun _ _ z => z
  obtain ⟨v0, H2, I2, rv, b, rfl, q2⟩ := z
  cases rv
  exact wpAny_truthy_bool ⟨.bl b, H2, I2, rfl, q2⟩
/-- bool(o) -/
def rBoolO (C : Addr) (sp : Sp) (E : XK) : List V → Hp → VK → Prop := fun xs H Q => ∃ a dx fs, xs = [.ref a] ∧ H a = some (.ins C dx fs) ∧ sp [.ref a] H (fun v H2 => ∃ b, v = .bl b ∧ Q (.bl b) H2) E
theorem meets_boolO {prog : Program} {w : World} (x : Addr) : MeetsIn prog w (Builtin.«bool.__new__» ⟨[.type "bool", .ref x], []⟩) (fun A R s => wpAny (model prog w) A.in1 (truthy (.ref x)) (fun b s' => R (.ok (.ret (.bool b))) s') (fun e s' => R (.error e) s') s) :=
  .of_wp fun A R s h => by
    have f1 := F.conv_sub_bool
    obtain ⟨hp, g, d, tk, os⟩ := s
    repeat (any_goals (first | assumption | (refine wpAny_bind (m := truthy (.ref x)) (wpAny_mono h (fun b s' z => ?_) fun _ _ z => z)) | wp_step))
    all_goals first | exact ⟨_, rfl, z⟩ | exact z | skip
theorem bool_own {prog : Program} {w : World} {A : Around} {E : Value → Shared → Prop} {s : Shared} {K : PySem.W.Frag} {h₀ : Heap} {L x C f : Addr} {m : Str → Option Value} {ox : Obj} {od : Option Obj} {Q : Value → Shared → Prop} (Fh : Fr h₀ L s.heap m) (X₀ : K.In h₀) (I : PySem.W.InstAt s.heap x ox C od)
    (hs : PySem.W.findIn K (.ref C) "__bool__" = some (some (.ref f))) (hf : PySem.W.isFn K (.ref f) = true) (h : wpAny (model prog w) A.in1.in1 (call (.ref f) [.ref x]) (PySem.W.BoolBack fun b s' => Q (.bool b) s') E s) : wpAny (model prog w) A (call (.type "bool") [.ref x]) Q E s := by
  refine callType_newIn F.called_bool F.newNe_bool (F.typeCall_bool_1 _) (F.newCall_bool_1 _) (fun obj => F.args_object_init_2 obj _) F.entry_bool_new (meets_boolO x) ?_
  refine wpAny_mono (PySem.W.truthy_K Fh X₀ I hs hf h) (fun b s' z => ?_) fun _ _ z => z
  exact ⟨rfl, z⟩
theorem run_fn2 {pins : List (Addr × Obj)} {σ : L2.St} {H : Hp} {s : Shared} {Q : VK} {us : List Value} {vs : List V} (F : FnOk X.prog X.w X.K X.mg X.base CX k f fd ps sp) (hr : Room (k + 2) X.A) (hb : Binds X.K fd ps []) (hx : Passes CX X E)
    (I : Inv X pins σ H s) (r : Vals vs us) (h : sp vs H Q E) : wpAny (model X.prog X.w) X.A.in1.in1 (call (.ref f) us) (EP X pins σ Q) X.xe s := by
  have hl : us.length = ps.length := by rw [← r.length]; exact F.len _ _ _ _ h
  have hb' := hb s us I.kIn (by rw [List.append_nil]; exact hl)
  rw [List.append_nil] at hb'
  refine wpAny_call (codeAny_mono (F.run X.A.in1.in1 X.stack s H ⟨us, []⟩ us vs Q E hr.in1.in1 I.env0.in1.in1 hb' r h) fun r s' hq => ?_)
  cases r with
  | error e => exact hx pins σ H s e s' I hq
  | ok fl =>
    cases fl with
    | ret u => exact I.after hq
    | next => exact False.elim hq
    | brk => exact False.elim hq
    | cont => exact False.elim hq
theorem call_boolO (c : Spc X.K C "__bool__" f) (F : FnOk X.prog X.w X.K X.mg X.base CX k f fd ps sp) (hr : Room (k + 2) X.A) (hb : Binds X.K fd ps []) (hx : Passes CX X E) : CallR X (.type "bool") (rBoolO C sp E) := by
  intro pins s σ H xs us Q I r h
  obtain ⟨a, dx, fs, rfl, ha, q⟩ := h
  rw [Vals.ref1 r]
  obtain ⟨ox, od, J, _⟩ := ins_inst I ha
  obtain ⟨m, Fr⟩ := I.fr
  refine bool_own Fr I.ok.mod.kin J c.at_ c.fn (wpAny_mono (run_fn2 (us := [.ref a]) (vs := [.ref a]) F hr hb hx I (.cons rfl .nil) q) (fun v s' z => ?_) fun _ _ z => z)
  obtain ⟨v0, H2, I2, rv, n, e, q2⟩ := z
  subst e
  cases rv
  exact ⟨.bl n, H2, I2, rfl, q2⟩
/-- bool(d), d a dict -/
theorem call_boolD : CallR X (.type "bool") (fun xs H Q => ∃ (a : Addr) (kvs : List (Key × V)), xs = [.ref a] ∧ H a = some (.dK kvs) ∧ Q (.bl (!kvs.isEmpty)) H) := by
  intro pins s σ H xs us Q I r h
  obtain ⟨a, kvs, rfl, ha, q⟩ := h
  rw [Vals.ref1 r]
  obtain ⟨hz, hs, vs, kv, dd⟩ := (show ObjOk X.prog X.w H s.heap a (.dK kvs) from I.hok a _ ha)
  have hl : kvs.length = vs.length := Paired.length kv
  refine callType_newIn F.called_bool F.newNe_bool (F.typeCall_bool_1 _) (F.newCall_bool_1 _) (fun obj => F.args_object_init_2 obj _) F.entry_bool_new (meets_boolO a) ?_
  have l63 := line63
  refine wpAny_truthy_dict (knd := mixKind X.prog X.w) hs dd (by omega) ?_
  refine ⟨rfl, .bl (!kvs.isEmpty), H, I.tok _, ?_, q⟩
  show Value.bool _ = Value.bool _
  congr 2
  cases kvs <;> cases vs <;> first | rfl | (simp at hl)
end
/-! ### keywords into a new dict -/
theorem push_update (h : Heap) (o : Obj) (g : Obj → Obj) : (h.push o).update h.objs.size g = h.push (g o) := by
  obtain ⟨objs, l⟩ := h
  show (⟨(objs.push o).modify objs.size g, l⟩ : Heap) = ⟨objs.push (g o), l⟩
  congr 1
  apply Array.ext
  · simp
  · intro i h1 h2
    rw [Array.getElem_modify]
    by_cases c : i = objs.size
    · subst c
      simp
    · have hi : i < objs.size := by simp at h2; omega
      rw [if_neg (fun q => c q.symm), Array.getElem_push_lt hi, Array.getElem_push_lt hi]
theorem nsSet_push {prog : Program} {w : World} {A : Around} {E : Value → Shared → Prop} {h : Heap} {g : Array GenState} {dr : Drawn} {t : Nat} {os : OsState} {es : List DictEntry} {n : Nat} {k : Str} {v : Value} {Q : Unit → Shared → Prop}
    (hs : ∀ e ∈ es, e.key.isStr k = false) (hr : ∀ e ∈ es, e.refKey = false)
    (hq : Q () ⟨h.push (PySem.W.dictOf (es ++ [⟨PyData.keyHash w.params k, .str k t, v⟩]) (n + 1)), g, dr, t + 1, os⟩) :
    wpAny (model prog w) A (nsSet h.objs.size k v) Q E ⟨h.push (PySem.W.dictOf es n), g, dr, t, os⟩ := by
  have e1 : es.any (·.key.isStr k) = false := List.any_eq_false.mpr fun e he => by rw [hs e he]; exact Bool.false_ne_true
  have e2 : es.any (·.refKey) = false := List.any_eq_false.mpr fun e he => by rw [hr e he]; exact Bool.false_ne_true
  have e : Obj.putName k (PyData.keyHash w.params k) (.str k t) v (PySem.W.dictOf es n) = PySem.W.dictOf (es ++ [⟨PyData.keyHash w.params k, .str k t, v⟩]) (n + 1) := by
    rw [PySem.W.putName_dict, PySem.W.putL_new hs]
    show PySem.W.dictOf _ (if es.any (·.key.isStr k) then n else n + 1) = _
    rw [e1, if_neg Bool.false_ne_true]
  have D : (h.push (PySem.W.dictOf es n)).get? h.objs.size = some (PySem.W.dictOf es n) := Heap.get?_push_size _ rfl
  have c : aRefKeyMayBeTheName k es.toArray = false := by
    rw [aRefKeyMayBeTheName_at, ← Array.any_toList, ← Array.any_toList]
    show (!es.any (·.key.isStr k) && es.any (·.refKey)) = false
    rw [e2, Bool.and_false]
  unfold nsSet
  refine wpAny_bind (wpAny_bind (wpAny_askSetting (wpAny_pure (wpAny_bind (wpAny_mkText (wpAny_bind (wpAny_loadPart D ?_)))))))
  dsimp only
  rw [c]
  refine wpAny_updatePart D ?_
  show Q () ⟨(h.push (PySem.W.dictOf es n)).update h.objs.size (Obj.putName k (PyData.keyHash w.params k) (.str k t) v), g, dr, t + 1, os⟩
  rw [push_update, e]
  exact hq
theorem fill_push {prog : Program} {w : World} {A : Around} {E : Value → Shared → Prop} {h : Heap} {g : Array GenState} {dr : Drawn} {os : OsState} {Q : PUnit → Shared → Prop} : ∀ (ex : List (Str × Value)) (t : Nat) (es : List DictEntry) (n : Nat),
    (∀ e ∈ es, ∀ x ∈ ex, e.key.isStr x.1 = false) → (∀ e ∈ es, e.refKey = false) → (ex.map (·.1)).Nodup →
    Q ⟨⟩ ⟨h.push (PySem.W.dictOf (es ++ PySem.W.kwEs w.params t ex) (n + ex.length)), g, dr, t + ex.length, os⟩ →
    wpAny (model prog w) A (forIn ex PUnit.unit fun x _ => (nsSet h.objs.size x.1 x.2 >>= fun _ => pure (ForInStep.yield PUnit.unit))) Q E ⟨h.push (PySem.W.dictOf es n), g, dr, t, os⟩
  | [], t, es, n, _, _, _, hq => by
    rw [List.forIn_nil]
    refine wpAny_pure ?_
    have e : es ++ PySem.W.kwEs w.params t [] = es := List.append_nil _
    rw [e] at hq
    exact hq
  | x :: r, t, es, n, hs, hr, hn, hq => by
    obtain ⟨hn1, hn2⟩ := List.nodup_cons.mp (show (x.1 :: r.map (·.1)).Nodup from hn)
    rw [List.forIn_cons]
    refine wpAny_bind (wpAny_bind (nsSet_push (fun e he => hs e he x (.head _)) hr (wpAny_pure ?_)))
    show wpAny (model prog w) A (forIn r PUnit.unit fun x _ => (nsSet h.objs.size x.1 x.2 >>= fun _ => pure (ForInStep.yield PUnit.unit))) Q E _
    refine fill_push r (t + 1) _ _ (fun e he y hy => ?_) (fun e he => ?_) hn2 ?_
    · rcases List.mem_append.mp he with he | he
      · exact hs e he y (.tail _ hy)
      · obtain rfl := List.mem_singleton.mp he
        show (x.1 == y.1) = false
        exact beq_eq_false_iff_ne.mpr fun q => hn1 (by rw [q]; exact List.mem_map_of_mem hy)
    · rcases List.mem_append.mp he with he | he
      · exact hr e he
      · obtain rfl := List.mem_singleton.mp he
        rfl
    · have t1 : t + 1 + r.length = t + (r.length + 1) := by omega
      have t2 : n + 1 + r.length = n + (r.length + 1) := by omega
      rw [t1, t2, List.append_assoc]
      exact hq
/-- the dict that the keywords make -/
def kwK (ks : List Str) (zs : List V) : List (Key × V) := (ks.zip zs).map fun q => (Sum.inr q.1, q.2)
theorem kw_pairs (P : Program) (w : World) : ∀ (ex : List (Str × Value)) (t : Tok), Pairs (mixKind P w) (PySem.W.kwEs w.params t ex) (ex.map fun x => ((Sum.inr x.1 : Key), x.2))
  | [], _ => Pairs.nil
  | x :: r, t => Pairs.cons (keyIs_str x.1 t) rfl (kw_pairs P w r (t + 1))
theorem kw_kv : ∀ {ks : List Str} {zs : List V} {ws : List Value}, Vals zs ws → KV (kwK ks zs) ((ks.zip ws).map fun x => ((Sum.inr x.1 : Key), x.2))
  | [], _, _, _ => by
    unfold kwK
    simp only [List.zip_nil_left, List.map_nil]
    exact .nil
  | _ :: _, _, _, .nil => .nil
  | k :: ks, _, _, .cons r t => .cons ⟨rfl, r⟩ (kw_kv t)
theorem kw_fst {ks : List Str} {ws : List Value} (hz : ws.length = ks.length) : (ks.zip ws).map (·.1) = ks := List.map_fst_zip (by omega)
theorem dk_kw {P : Program} {w : World} {H : Hp} {ks : List Str} {zs : List V} {ws : List Value} (h : Heap) (hb : sysModules < h.objs.size) (t : Nat) (hn : ks.Nodup) (r : Vals zs ws) (hz : zs.length = ks.length) (hl : ks.length ≤ 1000) :
    ObjOk P w H (h.push (PySem.W.dictOf (PySem.W.kwEs w.params t (ks.zip ws)) (ks.zip ws).length)) h.objs.size (.dK (kwK ks zs)) := by
  have hw : ws.length = ks.length := by rw [← r.length]; exact hz
  refine ⟨?_, beq_eq_false_iff_ne.mpr (Ne.symm (Nat.ne_of_lt hb)), _, kw_kv r, _, _, _, Heap.get?_push_size _ rfl, ⟨rfl, rfl, rfl⟩, rfl, fun e he => ?_, kw_pairs P w _ t, ?_⟩
  · unfold kwK
    rw [List.length_map, List.length_zip]
    exact Nat.le_trans (show min ks.length zs.length ≤ 1000 by omega) (by decide)
  · obtain ⟨k, u, e1, e2⟩ := PySem.W.kwEs_key _ _ e (by simpa using he)
    exact ⟨Sum.inr k, by rw [e1]; exact keyIs_str k u, e2⟩
  · rw [List.map_map]
    show ((ks.zip ws).map ((fun x : Str => (Sum.inr x : Key)) ∘ fun x => x.1)).Nodup
    rw [← List.map_map, kw_fst hw]
    exact List.Pairwise.map _ (fun a b n q => n (Sum.inr.inj q)) hn
/-- a def called with one value and keywords -/
def FnKw (P : Program) (w : World) (K : PySem.W.Frag) (mg : Str → Option Value) (base : Heap) (CX : CXT) (k : Nat) (f : Addr) (ks : List Str) (sp : Sp) : Prop :=
  ∀ (A : Around) (outer : List Env) (s : Shared) (H : Hp) (u : Value) (v : V) (ws : List Value) (zs : List V) (Q : VK) (E : XK), Room k A → Env0 P w K mg base A outer s H → RelV v u → Vals zs ws → zs.length = ks.length → sp (v :: zs) H Q E →
    codeAny (model P w) A (.call (.ref f) ⟨[u], ks.zip ws⟩) (CR CX outer P w H s Q E) s
section
variable {CX : CXT} {P : Program} {w : World} {K : PySem.W.Frag} {mg : Str → Option Value} {base : Heap} {k : Nat} {f : Addr} {name qual : Str} {params : Arguments} {body : List Stmt} {scope : Scope} {dV kV doc pm cdv ct oc : Value} {an od : Option Addr}
  {osl : Array (Option Value)} {N ks : List Str} {sp : Sp} {p1 pv pd : Str}
/-- def f(a, *v, **d), called with a and keywords -/
theorem fn_kw (lk : K.lookup f = some ⟨oc, od, .func (PySem.W.fnOf name qual params body scope dV kV doc pm an cdv ct), osl⟩) (hcd : PySem.W.codeIn K cdv qual = true) (S : FnScope N [p1, pv, pd] scope) (hCX : StX.CXUp CX) (hn : ks.Nodup) (hl : ks.length ≤ 1000)
    (hb : ∀ (u : Value) (ws : List Value), ws.length = ks.length → bindArgs (PySem.W.fnOf name qual params body scope dV kV doc pm an cdv ct) ⟨[u], ks.zip ws⟩ =
      (newTuple [] >>= fun t => (alloc ({ cls := .type "dict", data := .dict #[] } : Obj) : Sem Addr) >>= fun d => (forIn (ks.zip ws) PUnit.unit fun x _ => (nsSet d x.1 x.2 >>= fun _ => pure (ForInStep.yield PUnit.unit))) >>= fun _ => pure [(p1, u), (pv, t), (pd, Value.ref d)]))
    (hbody : ∀ (A : Around) (outer : List Env) (s : Shared) (H : Hp) (vs : List V) (Q : VK) (E : XK), Room k (A.deeper (envOfC qual scope s.heap.objs.size f cdv)) → sp vs H Q E →
      ∃ t, PSs (cxOf CX P w K mg base N qual scope f cdv A outer s H E) body t ∧ t { nx := fun _ H' => Q .non H', rt := Q } (start N vs) H) :
    FnKw P w K mg base CX (k + 1) f ks (fun vs H Q E => ∃ v zs, vs = v :: zs ∧ ∀ p d, H p = Option.none → H d = Option.none → d ≠ p → sp [v, V.ref p, V.ref d] (upd (upd H p (.tup [])) d (.dK (kwK ks zs))) Q E) := by
  intro A outer s H u v ws zs Q E hr e0 rv r hz hsp
  obtain ⟨v', zs', ev, hq⟩ := hsp
  obtain ⟨rfl, rfl⟩ := List.cons.inj ev
  obtain ⟨hp, g, dr, tk, os⟩ := s
  have hn0 : H hp.objs.size = Option.none := e0.hok.fresh (Nat.le_refl _)
  have hw : ws.length = ks.length := by rw [← r.length]; exact hz
  refine StX.run_bnd (ps := [p1, pv, pd]) lk hcd S hr e0 (G := fun xs H2 => ∃ p d, H p = Option.none ∧ H d = Option.none ∧ d ≠ p ∧ xs = [v, V.ref p, V.ref d] ∧ H2 = upd (upd H p (.tup [])) d (.dK (kwK ks zs))) (fun A' Ex Q' h => ?_) fun s2 H2 xs ⟨p, d, hp', hd, hne, ex, eH⟩ hr' => ?_
  · rw [hb u ws hw]
    refine wpAny_bind (wpAny_newTuple (wpAny_bind (wpAny_alloc (wpAny_bind ?_))) (by show 0 ≤ sizeLine; decide))
    have new : ObjOk P w (upd H hp.objs.size (.tup [])) (hp.push ({ cls := .type "tuple", data := .seq (([] : List Value)).toArray } : Obj)) hp.objs.size (.tup []) := ⟨by show 0 ≤ sizeLine; decide, [], .nil, ⟨_, Heap.get?_push_size _ rfl, rfl, _, rfl⟩⟩
    have e1 := StX.env0_laid e0 new
    have un1 := StX.un_laid (fs := frs outer) (s := ⟨hp, g, dr, tk, os⟩) (o := ({ cls := .type "tuple", data := .seq (([] : List Value)).toArray } : Obj)) (u := .tup []) hn0
    have hn2 := e1.hok.fresh (Nat.le_refl _)
    have sz : (hp.push ({ cls := .type "tuple", data := .seq (([] : List Value)).toArray } : Obj)).objs.size = hp.objs.size + 1 := Heap.size_push _ _
    have ne : (hp.push ({ cls := .type "tuple", data := .seq (([] : List Value)).toArray } : Obj)).objs.size ≠ hp.objs.size := by
      rw [sz]
      exact Nat.succ_ne_self _
    have hd : H (hp.push ({ cls := .type "tuple", data := .seq (([] : List Value)).toArray } : Obj)).objs.size = Option.none := e0.hok.fresh (by show _ ≤ _; rw [sz]; exact Nat.le_succ _)
    have kp1 : ∀ b o, hp.get? b = some o → (hp.push ({ cls := .type "tuple", data := .seq (([] : List Value)).toArray } : Obj)).get? b = some o := fun b o q => Heap.get?_push_of_some _ q
    generalize hp.push ({ cls := .type "tuple", data := .seq (([] : List Value)).toArray } : Obj) = hp1 at e1 un1 hn2 ne hd kp1
    refine fill_push (ks.zip ws) tk [] 0 (fun _ he => nomatch he) (fun _ he => nomatch he) (by rw [kw_fst hw]; exact hn) (wpAny_pure ?_)
    rw [List.nil_append, Nat.zero_add]
    have e2 := StX.env0_laid (u := .dK (kwK ks zs)) (o := PySem.W.dictOf (PySem.W.kwEs w.params tk (ks.zip ws)) (ks.zip ws).length) e1 (dk_kw hp1 (StX.env0_big e1) tk hn r hz hl)
    have un2 := un1.trans (StX.un_laid (fs := frs outer) (s := (⟨hp1, g, dr, tk, os⟩ : Shared)) (o := PySem.W.dictOf (PySem.W.kwEs w.params tk (ks.zip ws)) (ks.zip ws).length) (u := .dK (kwK ks zs)) hn2)
    have z := h ⟨hp1.push (PySem.W.dictOf (PySem.W.kwEs w.params tk (ks.zip ws)) (ks.zip ws).length), g, dr, tk + (ks.zip ws).length, os⟩ _ [v, V.ref hp.objs.size, V.ref hp1.objs.size] [u, Value.ref hp.objs.size, Value.ref hp1.objs.size]
      ⟨e2.frames, e2.mod, e2.bs, e2.bsz, e2.funs, e2.frf, e2.hok, e2.bare⟩ un2 rfl (fun e s' => hCX outer _ H _ _ E e s' un2 ?_ rfl) (.cons rv (.cons rfl (.cons rfl .nil))) rfl ⟨_, _, hn0, hd, ne, rfl, rfl⟩
    · exact z
    · exact fun b o q => Heap.get?_push_of_some _ (kp1 b o q)
  · subst ex eH
    exact hbody A outer s2 _ _ Q E hr' (hq p d hp' hd hne)
end
/-- C(k1=v1, ..) -/
def tMkKw (C : Addr) (sp : Sp) (E : XK) (n : Nat) (tk : TA) : TE := fun σ H Q => tk σ H fun zs H1 => zs.length = n ∧ ∀ x dx, H1 x = none → H1 dx = none → dx ≠ x → sp (.ref x :: zs) (upd (upd H1 dx (.own x)) x (.ins C dx [])) (fun v H2 => v = .non ∧ Q (.ref x) H2) E
section
variable {X : Cx} {CX : CXT} {k : Nat} {f C : Addr} {sp : Sp} {E : XK} {x : Str} {p pos : Pos} {kws : List Keyword} {ks : List Str} {tk : TA}
theorem run_makeKw {pins : List (Addr × Obj)} {σ : L2.St} {H : Hp} {s : Shared} {Q : VK} {ws : List Value} {zs : List V} (M : Mk X.K C f) (F : FnKw X.prog X.w X.K X.mg X.base CX k f ks sp) (hr : Room (k + 1) X.A) (hx : Passes CX X E) (I : Inv X pins σ H s) (r : Vals zs ws) (hz : zs.length = ks.length)
    (h : ∀ x dx, H x = none → H dx = none → dx ≠ x → sp (V.ref x :: zs) (upd (upd H dx (.own x)) x (.ins C dx [])) (fun v H2 => v = .non ∧ Q (.ref x) H2) E) :
    wpAny (model X.prog X.w) X.A (call (.ref C) [] (ks.zip ws)) (EP X pins σ Q) X.xe s := by
  have hq := h (s.heap.objs.size + 1) s.heap.objs.size (I.hok.fresh (Nat.le_succ _)) (I.hok.fresh (Nat.le_refl _)) (Nat.ne_of_lt (Nat.lt_succ_self _))
  have I2 := Inv.made (C := C) I
  refine wpAny_call (make_map (f := f) I.kIn M.makes M.init (beq_iff_eq.mp M.fn) (codeAny_mono (F _ X.stack _ _ (Value.ref (s.heap.objs.size + 1)) (V.ref (s.heap.objs.size + 1)) ws zs _ E (hr.make C [] (ks.zip ws)) (I2.env0.make C [] (ks.zip ws)) rfl r hz hq) fun r s' hq' => ?_))
  cases r with
  | error e => exact hx pins σ _ _ e s' I2 hq'
  | ok fl =>
    cases fl with
    | ret u =>
      obtain ⟨v, H', I3, rv, ev, q3⟩ := I2.after hq'
      subst ev
      exact ⟨rv, ⟨V.ref (s.heap.objs.size + 1), H', I3, rfl, q3⟩⟩
    | next => exact False.elim hq'
    | brk => exact False.elim hq'
    | cont => exact False.elim hq'
theorem pe_mkKw (M : Mk X.K C f) (F : FnKw X.prog X.w X.K X.mg X.base CX k f ks sp) (hr : Room (k + 1) X.A) (hg : Gl X x) (hm : X.mg x = some (.ref C)) (hx : Passes CX X E) (hkw : PK X kws tk) (hdb : (x == ("__debug__" : Str)) = false := by decide)
    (hall : (backToKw pos (keywordEach kws X.env)).all (·.1.isSome) = true := by rfl) (hks : (backToKw pos (keywordEach kws X.env)).filterMap (·.1) = ks := by rfl)
    (hpl : ((backTo pos (starEach [] X.env)).any (·.1) || (backToKw pos (keywordEach kws X.env)).any (·.1.isNone)) = false := by rfl) :
    PE X (.Call (.Name x p) [] kws pos) (tMkKw C sp E ks.length tk) := by
  refine ⟨fun pins s σ H Q I h => ?_⟩
  refine wpAny_Call_Name_kw (ld_glob I hg hm ?_ hdb)
  refine PySem.W.callWith_KW0 (h₀ := X.base) I.ok.mod.kin M.kp hall (thn (hkw.run pos pins s σ H _ I h) fun ws s2 ⟨zs, H2, I2, rz, l2, q2⟩ => ⟨I2.kIn, ?_⟩) hpl
  rw [hks]
  exact run_makeKw M F hr hx I2 rz l2 q2
end
end Cs

set_option Elab.async false
set_option linter.all false
set_option maxRecDepth 100000
set_option maxHeartbeats 4000000
/-! Defs of an own class that say super().m(..): judged where the def's own code runs. -/
namespace Cs
open PySem PySem.W PySem.Spec L2 NdefX
/-! ### judgements at the def's own code -/
section
variable (X : Cx) (b : List Stmt)
structure PEA (e : Expr) (t : TE) : Prop where
  run : ∀ (pins : List (Addr × Obj)) (s : Shared) (σ : L2.St) (H : Hp) (Q : VK), Inv X pins σ H s → t σ H Q → PySem.wpAt (model X.prog X.w) X.A (.func b X.env) (eval e X.env) (EP X pins σ Q) X.xe s
structure PSA (st : Stmt) (t : TS) : Prop where
  run : ∀ (pins : List (Addr × Obj)) (s : Shared) (σ : L2.St) (H : Hp) (D : Ends), Inv X pins σ H s → t D σ H → PySem.wpAt (model X.prog X.w) X.A (.func b X.env) (exec st X.env) (SP X pins D) X.xe s
structure PSsA (sts : List Stmt) (t : TS) : Prop where
  run : ∀ (pins : List (Addr × Obj)) (s : Shared) (σ : L2.St) (H : Hp) (D : Ends), Inv X pins σ H s → t D σ H → PySem.wpAt (model X.prog X.w) X.A (.func b X.env) (execs sts X.env) (SP X pins D) X.xe s
end
section
variable {X : Cx} {b : List Stmt} {e e2 : Expr} {te te2 : TE} {st : Stmt} {sts : List Stmt} {t u : TS} {pos : Pos}
theorem PEA.of (h : PE X e te) : PEA X b e te := ⟨fun pins s σ H Q I q => wpAt_of_wpAny (h.run pins s σ H Q I q)⟩
theorem PSA.of (h : PS X st t) : PSA X b st t := ⟨fun pins s σ H D I q => wpAt_of_wpAny (h.run pins s σ H D I q)⟩
theorem PSsA.of (h : PSs X sts t) : PSsA X b sts t := ⟨fun pins s σ H D I q => wpAt_of_wpAny (h.run pins s σ H D I q)⟩
theorem pssa_cons (h1 : PSA X b st t) (h2 : PSsA X b sts u) : PSsA X b (st :: sts) (tSeq t u) := by
  refine ⟨fun pins s σ H D I h => ks_wpAt_execs_cons (ks_wpAt_mono (h1.run pins s σ H { D with nx := u D } I h) (fun f s1 q => ?_) fun _ _ z => z)⟩
  cases f with
  | next =>
    obtain ⟨σ', H', I', q⟩ := q
    exact h2.run pins s1 σ' H' D I' q
  | ret v => exact q
  | brk => exact q
  | cont => exact q
theorem pssa_one (h1 : PSA X b st t) : PSsA X b [st] t := by
  refine ⟨fun pins s σ H D I h => ks_wpAt_execs_cons (ks_wpAt_mono (h1.run pins s σ H D I h) (fun f s1 q => ?_) fun _ _ z => z)⟩
  cases f with
  | next => exact wpAt_of_wpAny (wpAny_execs_nil q)
  | ret v => exact q
  | brk => exact q
  | cont => exact q
theorem psa_expr (he : PEA X b e te) (hs : swapsWith e none pos.line X.env = pure false := by rfl) : PSA X b (.Expr e pos) (tDrop te) :=
  ⟨fun pins s σ H D I h => ks_wpAt_Expr_any (ks_wpAt_mono (he.run pins s σ H _ I h) (fun v s1 ⟨x, H1, I1, r1, q1⟩ => ⟨σ, H1, I1, q1⟩) fun _ _ z => z) I.quiet hs⟩
theorem psa_ret (he : PEA X b e te) : PSA X b (.Return (some e) pos) (tRet te) :=
  ⟨fun pins s σ H D I h => ks_wpAt_Return_some (ks_wpAt_mono (he.run pins s σ H _ I h) (fun v s1 ⟨x, H1, I1, r1, q1⟩ => ⟨x, σ, H1, I1, r1, q1⟩) fun _ _ z => z)⟩
theorem psa_if {c : Expr} {a o : List Stmt} {tc : TT} (hc : PT X c tc) (ha : PSsA X b a t) (hb : PSsA X b o u) : PSA X b (.If c a o pos) (tIfS tc t u) := by
  refine ⟨fun pins s σ H D I h => ks_wpAt_If (ks_wpAt_mono (wpAt_of_wpAny (hc.run pins s σ H _ I h)) (fun d s1 ⟨H1, I1, q1⟩ => ?_) fun _ _ z => z)⟩
  cases d with
  | true => exact ha.run pins s1 σ H1 D I1 q1
  | false => exact hb.run pins s1 σ H1 D I1 q1
theorem pea_op {op : Operator} {r : R2} (ho : OpR X (binaryOp op) r) (ha : PEA X b e te) (hb : PE X e2 te2) : PEA X b (.BinOp e op e2 pos) (tOp r te te2) := by
  refine ⟨fun pins s σ H Q I h => ks_wpAt_BinOp (ks_wpAt_mono (ha.run pins s σ H _ I h) (fun v s1 ⟨x, H1, I1, r1, q1⟩ => ?_) fun _ _ z => z)⟩
  exact thn (hb.run pins s1 σ H1 _ I1 q1) fun u s2 ⟨y, H2, I2, r2, q2⟩ => ho pins s2 σ H2 x y v u Q I2 r1 r2 q2
end
/-! ### super().m(..) -/
/-- what the text tells of a def that says super(): its class, its cell, its code -/
structure SupT (X : Cx) (f cda cc D : Addr) (ar : Str) : Prop where
  ks : X.env.kindOf "super" = some .globalImplicit
  kc : X.env.kindOf "__class__" = some .free
  fu : X.env.func = some f
  co : X.env.code = .ref cda
  cl : X.env.cells.lookup ("__class__" : Str) = some cc
  fn : ∃ oc od fd osl, X.K.lookup f = some ⟨oc, od, .func fd, osl⟩ ∧ ∃ a, (fd.params.posonlyargs ++ fd.params.args).head? = some a ∧ a.arg = ar
  code : ∃ ccl cdd vs ccs file tf, X.K.lookup cda = some ⟨ccl, cdd, .fields vs, ccs⟩ ∧ vs[2]? = some (.str file tf) ∧ ((X.prog.main.file : Str) == file) = true
  cell : ∃ cl cld csl, X.K.lookup cc = some ⟨cl, cld, .cell (some (.ref D)), csl⟩
  isD : PySem.W.isClsIn X.K D = true
  top : (X.prog.main.scope.names.lookup ("super" : Str)).isSome = false
  mg : X.mg "super" = none
  opq : PySem.W.nsIn X.K cStatics "thirdparty.any" = some none
  karg : X.env.kindOf ar = some .local
/-- from an object of the class at C, above D, the def found is f2 -/
structure Sup (K : PySem.W.Frag) (C D : Addr) (m : Str) (f2 : Addr) : Prop where
  sub : PySem.W.mroIn K C (.ref D) = some true
  at_ : PySem.W.ks_superIn K C D m = some (some (.ref f2))
  ty : PySem.W.typeIn K (.ref f2) = some (.type "function")
  fi : PySem.W.fnIn K f2 = true
theorem boot_super : bootBuiltins "super" = some (.type "super") := by decide +kernel
section
variable {X : Cx} {b : List Stmt} {CX : CXT} {k i : Nat} {f cda cc D : Addr} {ar m : Str} {E : XK} {p0 p1 sp_ apos pos : Pos} {e : Expr} {es : List Expr} {te : TE} {t : TA} {pl : Sem Bool}
/-- the object, the def found above, its promise -/
def SupAt (X : Cx) (CX : CXT) (k i : Nat) (D : Addr) (m : Str) (σ : L2.St) (H : Hp) (a : Addr) (sp : Sp) : Prop := ∃ C dx fs f2, σ[i]? = some (some (.ref a)) ∧ H a = some (.ins C dx fs) ∧ Sup X.K C D m f2 ∧ FnR X.prog X.w X.K X.mg X.base CX k f2 sp
/-- super() and the method behind it -/
theorem sup_meth {pins : List (Addr × Obj)} {s : Shared} {σ : L2.St} {H : Hp} {a : Addr} {sp : Sp} {whole : Sem Value} {Q : Value × List Value → Shared → Prop} (T : SupT X f cda cc D ar) (hN : X.N[i]? = some ar) (hm : (m == ("__class__" : Str)) = false) (I : Inv X pins σ H s) (h : SupAt X CX k i D m σ H a sp)
    (hq : ∀ q f2 s', X.base.get? q = none → PySem.W.fnIn X.K f2 = true → FnR X.prog X.w X.K X.mg X.base CX k f2 sp → Inv X ((q, PySem.W.methodObj (.ref f2) (.ref a)) :: pins) σ H s' → Q (.ref q, []) s') :
    PySem.wpAt (model X.prog X.w) X.A (.func b X.env) (attributeBase (.Call (.Name "super" p0) [] [] p1) m X.env whole) (fun ov s1 => wpAny (model X.prog X.w) X.A (getMethod ov m pl) Q X.xe s1) X.xe s := by
  obtain ⟨C, dx, fs, f2, hs, ha, S, F⟩ := h
  obtain ⟨oc, od, fd, osl, lf, ar', hp, ea⟩ := T.fn
  obtain ⟨ccl, cdd, vs, ccs, file, tf, lc, hvs, hfile⟩ := T.code
  obtain ⟨cl, cld, csl, lcell⟩ := T.cell
  obtain ⟨cdD, hD⟩ := Option.isSome_iff_exists.mp (show (PySem.W.clsIn X.K D).isSome = true from T.isD)
  obtain ⟨mA, O, _⟩ := ins_get I.hok ha
  obtain ⟨oi, J, _⟩ := O.look
  obtain ⟨mL, hloc, hlk⟩ := I.loc
  obtain ⟨u, ru, lk⟩ := hlk i ar (.ref a) hN hs (.inl T.karg)
  obtain rfl : u = Value.ref a := ru
  have hma : mL ar = some (.ref a) := by
    rcases lk with ⟨_, q⟩ | ⟨q, _⟩
    · exact q
    · rcases q with q | q <;> (rw [T.karg] at q; cases q)
  subst ea
  obtain ⟨oD, hD1, hD2⟩ : ∃ oD, s.heap.get? D = some oD ∧ oD.data = .cls cdD := by
    unfold PySem.W.clsIn at hD
    split at hD
    · rename_i c d cd' sl ho
      cases hD
      exact ⟨_, I.kIn _ _ ho, rfl⟩
    · cases hD
  refine ks_wpAt_super_base T.ks T.kc hm T.fu (I.kIn _ _ lf) rfl hp T.co (I.kIn _ _ lc) rfl hvs hfile T.top ?_
  obtain ⟨mb, hb1, hb2⟩ := I.mod.blt
  refine PySem.W.ks_loadName_global I.ok.kind T.ks (Calls.loadGlobal_builtin (by rw [I.ok.glob]; exact I.mod.glob.keeps I.bk) T.mg (by rw [I.ok.blt]; exact hb1.keeps I.bk) ((hb2 _ (by decide)).trans boot_super) ⟨rfl, ?_⟩)
  refine wpAny_loadName_free I.ok.kind T.kc T.cl ⟨_, I.kIn _ _ lcell, rfl⟩ ?_
  refine wpAny_loadName_local I.ok.kind T.karg hloc hma ?_
  obtain ⟨hh, g, dr, tk, os⟩ := s
  refine ks_wpAny_isType_cls hD1 hD2 ⟨rfl, ?_⟩
  refine ks_wpAny_call_super hD1 hD2 J.at_ J.cls (fun c e => ?_) (PySem.W.looks_mroIn I.kIn S.sub) (fun h' eso kp => ?_)
  · have := J.no
    unfold PySem.W.notCls at this
    rw [e] at this
    exact Bool.noConfusion this
  · have I2 : Inv X pins σ H { (⟨hh, g, dr, tk, os⟩ : Shared) with heap := h' } := I.kept (t' := tk) kp
    have hz : hh.objs.size < h'.objs.size := Heap.lt_size eso
    cases hc : PySem.W.clsIn X.K C with
    | none =>
      have := S.at_
      unfold PySem.W.ks_superIn at this
      rw [hc] at this
      cases this
    | some cd =>
      have hs2 := S.at_
      unfold PySem.W.ks_superIn at hs2
      rw [hc] at hs2
      obtain ⟨of, hof, hofc⟩ : ∃ of, h'.get? f2 = some of ∧ of.cls = .type "function" := by
        have ht' : (X.K.lookup f2).map (·.cls) = some (.type "function") := S.ty
        cases z : X.K.lookup f2 with
        | none => rw [z] at ht'; cases ht'
        | some of => rw [z] at ht'; exact ⟨of, I2.kIn _ _ z, Option.some.inj ht'⟩
      have J2 : PySem.W.InstAt h' a (instObj C dx) C (some oi) := ⟨kp _ _ J.at_, J.cls, J.no, kp _ _ J.dict⟩
      refine ks_wpAny_getMethod_super eso (PySem.W.looks_opaque I2.kIn T.opq) (l₀ := cd.mro) (fun A Q E s k q => wpAny_bind ((PySem.W.looks_clsIn I2.kIn hc) A _ E s k (wpAny_pure q))) rfl I2.kIn hs2 hof hofc (PySem.W.ks_ne I2.kIn J2 hc) hm ?_
      exact hq _ f2 _ (ClX.base_none I2 (Nat.le_refl _)) S.fi F (ClX.met_new I2)
end
/-- o.m of a super object, read as an attribute -/
theorem getAttr_super {prog : Program} {w : World} {A : Around} {E : Value → Shared → Prop} {h : Heap} {g : Array GenState} {d : Drawn} {t : Nat} {os : OsState} {so D x C f : Addr} {of : Obj} {l₀ l : List Value} {K : Frag} {name : Str} {Q : Value → Shared → Prop}
    (hso : h.get? so = some { cls := .type "super", dict := none, data := .fields #[.ref D, .ref x, .ref C], slots := #[] }) (hno : Looks (model prog w) h (opaqueClassAbove (.ref C)) none)
    (hC : Looks (model prog w) h (mroOf (.ref C)) l₀) (hl : (l₀.dropWhile (· != .ref D)).drop 1 = l) (X : K.In h)
    (hf : alongIn K name l = some (some (.ref f))) (hfo : h.get? f = some of) (hfc : of.cls = .type "function") (hxC : x ≠ C) (hn : (name == ("__class__" : Str)) = false)
    (hq : Q (.ref h.objs.size) ⟨h.push { cls := .type "method", data := .fields #[.ref f, .ref x] }, g, d, t + 1, os⟩) : wpAny (model prog w) A (getAttr (.ref so) name true) Q E ⟨h, g, d, t, os⟩ := by
  have hlk := F.ks_slot_super_ga.lookup
  have tyS : ∀ t', (⟨h, g, d, t', os⟩ : Shared).TypeIs (.ref so) "super" := fun _ => ⟨_, hso, rfl⟩
  unfold getAttr getAttrBy
  refine wpAny_bind (wpAny_mkText (wpAny_holding (wpAny_bind (wpAny_typeOf (tyS _) (wpAny_bind (wpAny_of_eq hlk ?_))))))
  show wpAny _ _ (getAttrByItsOwn (.ref so) (.str name t) (.type "super") (.builtin "super.__getattribute__") _ _) _ _ _
  unfold getAttrByItsOwn hookBefore callGetattribute boundAndCalled
  refine wpAny_bind (wpAny_of_eq (show (if onTheHeap (.type "super") then typeLookup (.type "super") "__getattr__" else pure none) = pure none from rfl) ?_)
  refine wpAny_bind (wpAny_attempt (wpAny_holding ?_))
  show wpAny _ _ (bindSpecial (.builtin "super.__getattribute__") (.ref so) >>= _) _ _ _
  refine wpAny_bind (wpAny_of_eq (F.ks_slot_super_ga.bind _) ?_)
  refine wpAny_mono (Q := fun v s' => v = .ref h.objs.size ∧ s' = ⟨h.push { cls := .type "method", data := .fields #[.ref f, .ref x] }, g, d, t + 1, os⟩) (E := fun _ _ => False)
    (wpAny_call_entry F.ks_slot_super_ga (tyS _) F.ks_entry_super_ga (ks_wpAny_super_ga hso hno hC hl X hf hfo hfc hxC hn ⟨_, rfl, rfl, rfl⟩) (F.ks_gaArgs_super _ _)) (fun v s' hv => ?_) fun _ _ z => z.elim
  obtain ⟨rfl, rfl⟩ := hv
  exact wpAny_pure hq
/-- o.m(.., *y) where the def's own code runs -/
theorem at_starcall {M : Model} {A : Around} {c : Code} {E : Value → Shared → Prop} {s : Shared} {env : Env} {o : Expr} {name : Str} {apos pos : Pos} {args : List Expr} {Q : Value → Shared → Prop} (hform : methodCallForm (args.length + ([] : List Keyword).length) (backTo pos (starEach args env)) (backToKw pos (keywordEach [] env)) = false)
    (h : PySem.wpAt M A c (attributeBase o name env (eval o env)) (fun ov s₁ => wpAny M A (getAttr ov name true) (fun f s₂ => wpAny M A (callWith pos f [] (backTo pos (starEach args env)) []) Q E s₂) E s₁) E s) : PySem.wpAt M A c (eval (.Call (.Attribute o name apos) args [] pos) env) Q E s := by
  rw [arm_eval_Call]
  refine PySem.wpAt_bind (PySem.wpAt_mono h (fun ov s₁ h₁ => wpAt_of_wpAny (wpAny_bind (wpAny_standAt ?_))) fun _ _ x => x)
  unfold methodCall
  rw [hform]
  refine wpAny_bind (wpAny_holding (wpAny_bind (wpAny_mono h₁ (fun f s₂ h₂ => wpAny_pure ?_) fun _ _ x => x)))
  exact wpAny_bind (wpAny_pure h₂)
section
variable {X : Cx} {b : List Stmt} {CX : CXT} {k i : Nat} {f cda cc D : Addr} {ar m : Str} {E : XK} {p0 p1 sp_ apos pos : Pos} {e : Expr} {es : List Expr} {te : TE} {t : TA} {pl : Sem Bool}
/-- super() and the method behind it, read as an attribute -/
theorem sup_attr {pins : List (Addr × Obj)} {s : Shared} {σ : L2.St} {H : Hp} {a : Addr} {sp : Sp} {whole : Sem Value} {Q : Value → Shared → Prop} (T : SupT X f cda cc D ar) (hN : X.N[i]? = some ar) (hm : (m == ("__class__" : Str)) = false) (I : Inv X pins σ H s) (h : SupAt X CX k i D m σ H a sp)
    (hq : ∀ q f2 s', X.base.get? q = none → PySem.W.fnIn X.K f2 = true → FnR X.prog X.w X.K X.mg X.base CX k f2 sp → Inv X ((q, PySem.W.methodObj (.ref f2) (.ref a)) :: pins) σ H s' → Q (.ref q) s') :
    PySem.wpAt (model X.prog X.w) X.A (.func b X.env) (attributeBase (.Call (.Name "super" p0) [] [] p1) m X.env whole) (fun ov s1 => wpAny (model X.prog X.w) X.A (getAttr ov m true) Q X.xe s1) X.xe s := by
  obtain ⟨C, dx, fs, f2, hs, ha, S, F⟩ := h
  obtain ⟨oc, od, fd, osl, lf, ar', hp, ea⟩ := T.fn
  obtain ⟨ccl, cdd, vs, ccs, file, tf, lc, hvs, hfile⟩ := T.code
  obtain ⟨cl, cld, csl, lcell⟩ := T.cell
  obtain ⟨cdD, hD⟩ := Option.isSome_iff_exists.mp (show (PySem.W.clsIn X.K D).isSome = true from T.isD)
  obtain ⟨mA, O, _⟩ := ins_get I.hok ha
  obtain ⟨oi, J, _⟩ := O.look
  obtain ⟨mL, hloc, hlk⟩ := I.loc
  obtain ⟨u, ru, lk⟩ := hlk i ar (.ref a) hN hs (.inl T.karg)
  obtain rfl : u = Value.ref a := ru
  have hma : mL ar = some (.ref a) := by
    rcases lk with ⟨_, q⟩ | ⟨q, _⟩
    · exact q
    · rcases q with q | q <;> (rw [T.karg] at q; cases q)
  subst ea
  obtain ⟨oD, hD1, hD2⟩ : ∃ oD, s.heap.get? D = some oD ∧ oD.data = .cls cdD := by
    unfold PySem.W.clsIn at hD
    split at hD
    · rename_i c d cd' sl ho
      cases hD
      exact ⟨_, I.kIn _ _ ho, rfl⟩
    · cases hD
  refine ks_wpAt_super_base T.ks T.kc hm T.fu (I.kIn _ _ lf) rfl hp T.co (I.kIn _ _ lc) rfl hvs hfile T.top ?_
  obtain ⟨mb, hb1, hb2⟩ := I.mod.blt
  refine PySem.W.ks_loadName_global I.ok.kind T.ks (Calls.loadGlobal_builtin (by rw [I.ok.glob]; exact I.mod.glob.keeps I.bk) T.mg (by rw [I.ok.blt]; exact hb1.keeps I.bk) ((hb2 _ (by decide)).trans boot_super) ⟨rfl, ?_⟩)
  refine wpAny_loadName_free I.ok.kind T.kc T.cl ⟨_, I.kIn _ _ lcell, rfl⟩ ?_
  refine wpAny_loadName_local I.ok.kind T.karg hloc hma ?_
  obtain ⟨hh, g, dr, tk, os⟩ := s
  refine ks_wpAny_isType_cls hD1 hD2 ⟨rfl, ?_⟩
  refine ks_wpAny_call_super hD1 hD2 J.at_ J.cls (fun c e => ?_) (PySem.W.looks_mroIn I.kIn S.sub) (fun h' eso kp => ?_)
  · have := J.no
    unfold PySem.W.notCls at this
    rw [e] at this
    exact Bool.noConfusion this
  · have I2 : Inv X pins σ H { (⟨hh, g, dr, tk, os⟩ : Shared) with heap := h' } := I.kept (t' := tk) kp
    have hz : hh.objs.size < h'.objs.size := Heap.lt_size eso
    cases hc : PySem.W.clsIn X.K C with
    | none =>
      have := S.at_
      unfold PySem.W.ks_superIn at this
      rw [hc] at this
      cases this
    | some cd =>
      have hs2 := S.at_
      unfold PySem.W.ks_superIn at hs2
      rw [hc] at hs2
      obtain ⟨of, hof, hofc⟩ : ∃ of, h'.get? f2 = some of ∧ of.cls = .type "function" := by
        have ht' : (X.K.lookup f2).map (·.cls) = some (.type "function") := S.ty
        cases z : X.K.lookup f2 with
        | none => rw [z] at ht'; cases ht'
        | some of => rw [z] at ht'; exact ⟨of, I2.kIn _ _ z, Option.some.inj ht'⟩
      have J2 : PySem.W.InstAt h' a (instObj C dx) C (some oi) := ⟨kp _ _ J.at_, J.cls, J.no, kp _ _ J.dict⟩
      refine getAttr_super eso (PySem.W.looks_opaque I2.kIn T.opq) (l₀ := cd.mro) (fun A Q E s k q => wpAny_bind ((PySem.W.looks_clsIn I2.kIn hc) A _ E s k (wpAny_pure q))) rfl I2.kIn hs2 hof hofc (PySem.W.ks_ne I2.kIn J2 hc) hm ?_
      exact hq _ f2 _ (ClX.base_none I2 (Nat.le_refl _)) S.fi F (ClX.met_new I2)
/-- super().m(*e) -/
def tSup1 (X : Cx) (CX : CXT) (k i : Nat) (D : Addr) (m : Str) (E : XK) (te : TE) : TE := fun σ H Q => ∃ a sp, SupAt X CX k i D m σ H a sp ∧ te σ H fun y H1 => ∃ q xs, y = V.ref q ∧ (SqT X.K H1 q xs ∨ SqL X.K H1 q xs) ∧ sp (.ref a :: xs) H1 Q E
theorem pea_sup1 (T : SupT X f cda cc D ar) (hN : X.N[i]? = some ar) (hr : Room k X.A) (hx : Passes CX X E) (he : PE X e te) (hm : (m == ("__class__" : Str)) = false := by decide) (hst : starEach [.Starred e sp_] X.env = [(true, eval e X.env)] := by rfl) (hform : methodCallForm ([Expr.Starred e sp_].length + ([] : List Keyword).length) (backTo pos (starEach [.Starred e sp_] X.env)) (backToKw pos (keywordEach [] X.env)) = false := by rfl) :
    PEA X b (.Call (.Attribute (.Call (.Name "super" p0) [] [] p1) m apos) [.Starred e sp_] [] pos) (tSup1 X CX k i D m E te) := by
  refine ⟨fun pins s σ H Q I h => ?_⟩
  obtain ⟨a, sp, hs, h⟩ := h
  refine at_starcall hform (sup_attr T hN hm I hs fun q f2 s1 hb hf F I1 => ?_)
  show wpAny _ _ (callWith pos (.ref q) [] (backTo pos (starEach [.Starred e sp_] X.env)) []) _ _ _
  rw [hst]
  refine PySem.W.ks_call rfl (PySem.W.keeps_M (self := .ref a) hf) (PySem.W.ks_lone (thn (he.run _ s1 σ H _ I1 h) fun v s2 ⟨y, H1, I2, ry, qq, xs, ey, hxs, q2⟩ => ?_))
  subst ey
  obtain rfl : v = Value.ref qq := ry
  exact StX.star_any I2 hxs fun us s3 I3 rv => ⟨⟨ClX.pin_at I3, I3.kIn⟩, ClX.run_cm F hr hx I3 rv q2⟩
/-- super().m(e, .., *y) -/
def tSup (X : Cx) (CX : CXT) (k i : Nat) (D : Addr) (m : Str) (E : XK) (t : TA) : TE := fun σ H Q => ∃ a sp, SupAt X CX k i D m σ H a sp ∧ t σ H fun vs H1 => sp (.ref a :: vs) H1 Q E
theorem pea_sup2 (T : SupT X f cda cc D ar) (hN : X.N[i]? = some ar) (hr : Room k X.A) (hx : Passes CX X E) (ha : PA X (e :: es) t) (hm : (m == ("__class__" : Str)) = false := by decide)
    (he : starEach (e :: es) X.env = (false, eval e X.env) :: starEach es X.env := by rfl) (hst : (backTo pos (starEach es X.env)).any (·.1) = true := by rfl) (hform : methodCallForm ((e :: es).length + ([] : List Keyword).length) (backTo pos (starEach (e :: es) X.env)) (backToKw pos (keywordEach [] X.env)) = false := by rfl) :
    PEA X b (.Call (.Attribute (.Call (.Name "super" p0) [] [] p1) m apos) (e :: es) [] pos) (tSup X CX k i D m E t) := by
  refine ⟨fun pins s σ H Q I h => ?_⟩
  obtain ⟨a, sp, hs, h⟩ := h
  refine at_starcall hform (sup_attr T hN hm I hs fun q f2 s1 hb hf F I1 => ?_)
  show wpAny _ _ (callWith pos (.ref q) [] (backTo pos (starEach (e :: es) X.env)) []) _ _ _
  have z := ha.run pos _ s1 σ H _ I1 h
  rw [he] at z ⊢
  refine PySem.W.ks_call (by show (false || (backTo pos (starEach es X.env)).any (·.1)) = true; rw [hst]; rfl) (PySem.W.keeps_M (self := .ref a) hf) (PySem.Calls.evalArgs_plain (thn z fun us s2 ⟨vs, H1, I2, rv, q2⟩ => ?_))
  exact ⟨⟨ClX.pin_at I2, I2.kIn⟩, ClX.run_cm F hr hx I2 rv q2⟩
/-- super().m(e, ..) -/
theorem pea_sup (T : SupT X f cda cc D ar) (hN : X.N[i]? = some ar) (hr : Room k X.A) (hx : Passes CX X E) (ha : PA X (e :: es) t) (hm : (m == ("__class__" : Str)) = false := by decide)
    (he : starEach (e :: es) X.env = (false, eval e X.env) :: starEach es X.env := by rfl) (hpl : (backTo pos (starEach es X.env)).any (·.1) = false := by rfl)
    (hc : eval (.Call (.Attribute (.Call (.Name "super" p0) [] [] p1) m apos) (e :: es) [] pos) X.env = (do
      let ov ← attributeBase (.Call (.Name "super" p0) [] [] p1) m X.env (eval (.Call (.Name "super" p0) [] [] p1) X.env)
      standAt apos.atName
      let (f, first) ← holding [ov] (getMethod ov m pl)
      callWith pos f first (backTo pos (starEach (e :: es) X.env)) []) := by rfl) :
    PEA X b (.Call (.Attribute (.Call (.Name "super" p0) [] [] p1) m apos) (e :: es) [] pos) (tSup X CX k i D m E t) := by
  refine ⟨fun pins s σ H Q I h => ?_⟩
  obtain ⟨a, sp, hs, h⟩ := h
  refine ks_wpAt_MethodCall (pl := pl) (sup_meth T hN hm I hs fun q f2 s1 hb hf F I1 => ?_) hc
  refine ClX.callwith_cm I1 hb hf (thn (ha.run pos _ s1 σ H _ I1 h) fun us s2 ⟨vs, H1, I2, rv, q2⟩ => ⟨⟨ClX.pin_at I2, I2.kIn⟩, ?_⟩) he hpl
  exact ClX.run_cm F hr hx I2 rv q2
end
/-! ### the def by its body -/
/-- the text of such a def -/
def nfOf (st : Stmt) (x qual : Str) (cda cc : Addr) : NF := ⟨x, qual, defArgs st, defBody st, defScope st, [("__class__", cc)], cda⟩
structure FunS (K : PySem.W.Frag) (x qual : Str) (st : Stmt) (f cda cc D : Addr) (kV doc pm ct : Value) (an : Option Addr) : Prop where
  lk : ∃ oc od osl, K.lookup f = some ⟨oc, od, .func (PySem.W.ksFn x qual (defArgs st) (defBody st) (defScope st) .none kV doc pm an (.ref cda) ct cc), osl⟩
  code : PySem.W.codeIn K (.ref cda) qual = true
  cell : ∃ cl cld csl, K.lookup cc = some ⟨cl, cld, .cell (some (.ref D)), csl⟩
section
variable {CX : CXT} {P : Program} {w : World} {K : PySem.W.Frag} {mg : Str → Option Value} {base : Heap} {k : Nat} {f cda cc D : Addr} {x qual : Str} {st : Stmt} {kV doc pm ct : Value} {an : Option Addr} {N ps : List Str}
theorem cells_super {s : Shared} {H : Hp} {A : Around} {outer : List Env} (F : FunS K x qual st f cda cc D kV doc pm ct an) (e0 : Env0 P w K mg base A outer s H) : CellsAt (nfOf st x qual cda cc).cl ["__class__"] [some (.ref D)] s.heap H := by
  obtain ⟨cl, cld, csl, lc⟩ := F.cell
  have hb := e0.mod.kin _ _ lc
  have h1 := e0.bs _ _ hb
  have look : ∀ y c, (nfOf st x qual cda cc).cl.lookup y = some c → y = "__class__" ∧ c = cc := fun y c q => by
    have q : ([("__class__", cc)] : List (Str × Addr)).lookup y = some c := q
    rw [List.lookup_cons] at q
    by_cases e : (y == ("__class__" : Str)) = true
    · rw [e] at q
      exact ⟨eq_of_beq e, (Option.some.inj q).symm⟩
    · rw [Bool.eq_false_iff.mpr e] at q
      cases q
  refine ⟨rfl, fun y c q => ?_, fun a b c q1 q2 => ?_, fun i y q => ?_⟩
  · obtain ⟨_, rfl⟩ := look y c q
    exact ⟨h1.2, _, ⟨_, h1.1, rfl⟩⟩
  · rw [(look a c q1).1, (look b c q2).1]
  · cases i with
    | zero =>
      obtain rfl : ("__class__" : Str) = y := Option.some.inj q
      refine ⟨cc, rfl, fun v hv => ?_⟩
      obtain rfl : V.ref D = v := Option.some.inj (Option.some.inj hv)
      exact ⟨.ref D, rfl, _, h1.1, rfl⟩
    | succ i => cases q
theorem run_sup {A : Around} {outer : List Env} {s : Shared} {H : Hp} {args : Args} {Q : VK} {E : XK} {G : List V → Hp → Prop} (F : FunS K x qual st f cda cc D kV doc pm ct an) (S : NScope N ps ["__class__"] (defScope st)) (hr : Room (k + 1) A) (e0 : Env0 P w K mg base A outer s H)
    (hb : StX.Bnd CX P w K mg base (PySem.W.ksFn x qual (defArgs st) (defBody st) (defScope st) .none kV doc pm an (.ref cda) ct cc) args ps A outer s H E G)
    (hbody : ∀ (s2 : Shared) (H2 : Hp) (vs : List V), G vs H2 → Room k (A.deeper (envF (nfOf st x qual cda cc) f s2.heap.objs.size)) →
      ∃ t, PSsA (ncx CX P w K mg base N (nfOf st x qual cda cc) f A outer s2 H2 E) (defBody st) (defBody st) t ∧ t { nx := fun _ H' => Q .non H', rt := Q } (startF N vs [some (.ref D)]) H2) :
    codeAny (model P w) A (.call (.ref f) args) (CR CX outer P w H s Q E) s := by
  have KX : K.In s.heap := e0.mod.kin.keeps fun b o e => (e0.bs b o e).1
  obtain ⟨oc, od, osl, lk⟩ := F.lk
  refine codeAny_call_function hr.depth (KX _ _ lk) rfl S.co S.gen rfl (PySem.W.codeRec_of KX F.code) ?_
  refine hb _ _ _ fun s2 H2 vs us e2 un ho hx r hl g => ?_
  have lim : s2.heap.NoLimit := e0.mod.nolimit.keeps fun b o e => (e2.bs b o e).1
  refine wpAny_newFunctionEnv S.nocell (fun ⟨n, _⟩ hy => S.par n (List.of_mem_zip hy).1) (fun h₁ hns hsb => ⟨lim.fresh _ hsb, ?_⟩) S.kind
  show codeAny _ _ (.func (defBody st) (envF (nfOf st x qual cda cc) f s2.heap.objs.size)) _ _
  have kp : ∀ b o, s2.heap.get? b = some o → h₁.get? b = some o := fun b o e => hsb.extBut b o (Nat.ne_of_lt (Heap.lt_size e)) (Heap.get?_push_of_some _ e)
  obtain ⟨t, ht, hq⟩ := hbody s2 H2 vs g (hr.deeper _)
  have I : Inv (ncx CX P w K mg base N (nfOf st x qual cda cc) f A outer s2 H2 E) [] (startF N vs [some (.ref D)]) H2 { s2 with heap := h₁, toks := s2.toks + (ps.zip us).length } := inv_startN S hr.hd e2 hl r (cells_super F e2) hns kp
  refine ks_codeAny_funcAt (ks_wpAt_mono (ht.run [] _ _ H2 _ I hq) (fun fl s' hs => ?_) fun e s' hs => ?_)
  · have fin : ∀ {σ' : L2.St} {H' : Hp} {v' : V} {u' : Value}, Inv (ncx CX P w K mg base N (nfOf st x qual cda cc) f A outer s2 H2 E) [] σ' H' s' → RelV v' u' → Q v' H' → CE outer P w H s Q u' s' :=
      fun {σ' H' v' u'} J rv' q => ⟨v', H', J.os.trans ho, J.bare, un.trans J.base, J.hok, rv', q⟩
    cases fl with
    | ret u' =>
      obtain ⟨v', σ', H', J, rv', q⟩ := hs
      exact fin J rv' q
    | next =>
      obtain ⟨σ', H', J, q⟩ := hs
      exact fin (v' := V.non) (u' := Value.none) J rfl q
    | brk =>
      obtain ⟨_, _, _, q⟩ := hs
      exact False.elim q
    | cont =>
      obtain ⟨_, _, _, q⟩ := hs
      exact False.elim q
  · exact wpAny_mono hs (fun _ s'' z => hx e s'' z) fun e' s'' z => hx e' s'' z
end
end Cs

set_option Elab.async false
set_option linter.all false
set_option maxRecDepth 100000
set_option maxHeartbeats 4000000
/-! A def that says super(), with a star: its promise by its body; what its text tells. -/
namespace Cs
open PySem PySem.W PySem.Spec L2 NdefX
section
variable {CX : CXT} {P : Program} {w : World} {K : PySem.W.Frag} {mg : Str → Option Value} {base : Heap} {k : Nat} {f cda cc D : Addr} {x qual : Str} {st : Stmt} {kV doc pm ct : Value} {an : Option Addr} {N ps : List Str} {pv : Str} {sp : Sp}
theorem FnR.up {j : Nat} (F : FnR P w K mg base CX k f sp) (h : k ≤ j) : FnR P w K mg base CX j f sp := fun A outer s H us vs Q E hr e0 r q => F A outer s H us vs Q E (hr.mono h) e0 r q
/-- what is left over goes to a new tuple -/
theorem bnd_star {fd : FuncData} {A : Around} {outer : List Env} {s : Shared} {H : Hp} {E : XK} {us : List Value} {ws rest : List V} (hCX : StX.CXUp CX) (e0 : Env0 P w K mg base A outer s H) (r : Vals (ws ++ rest) us) (hl : ws.length = ps.length) (hz : rest.length ≤ sizeLine)
    (hb : ∀ us rest : List Value, us.length = ps.length → bindArgs fd ⟨us ++ rest, []⟩ = (newTuple rest >>= fun t => pure (ps.zip us ++ [(pv, t)]))) :
    StX.Bnd CX P w K mg base fd ⟨us, []⟩ (ps ++ [pv]) A outer s H E (fun xs H2 => ∃ p, H p = Option.none ∧ xs = ws ++ [V.ref p] ∧ H2 = upd H p (.tup rest)) := by
  obtain ⟨u1, u2, eu, r1, r2⟩ := StX.vals_split r
  subst eu
  have free : H s.heap.objs.size = Option.none := e0.hok.fresh (Nat.le_refl _)
  have n1 : u1.length = ps.length := by rw [← r1.length]; exact hl
  have n2 : u2.length ≤ sizeLine := by rw [← r2.length]; exact hz
  intro A' Ex Q' h
  rw [hb u1 u2 n1]
  refine wpAny_bind (wpAny_newTuple (wpAny_pure ?_) n2)
  have laid : ObjOk P w (upd H s.heap.objs.size (.tup rest)) (s.heap.push ({ cls := .type "tuple", data := .seq u2.toArray } : Obj)) s.heap.objs.size (.tup rest) := ⟨hz, u2, r2, ⟨_, Heap.get?_push_size _ rfl, rfl, _, rfl⟩⟩
  have un := StX.un_laid (fs := frs outer) (s := s) (o := ({ cls := .type "tuple", data := .seq u2.toArray } : Obj)) (u := .tup rest) free
  have z := h _ _ (ws ++ [V.ref s.heap.objs.size]) (u1 ++ [Value.ref s.heap.objs.size]) (StX.env0_laid e0 laid) un rfl (fun e s' => hCX outer s H _ _ E e s' un (fun b o q => Heap.get?_push_of_some _ q) rfl) (r1.append (.cons rfl .nil))
    (by rw [List.length_append, List.length_append, hl] <;> rfl) ⟨_, free, rfl, rfl⟩
  rw [List.zip_append n1.symm] at z
  exact z
/-- def m(self, .., *v) with super() in it -/
theorem fn_supS (F : FunS K x qual st f cda cc D kV doc pm ct an) (S : NScope N (ps ++ [pv]) ["__class__"] (defScope st)) (hCX : StX.CXUp CX)
    (hb : ∀ us rest : List Value, us.length = ps.length → bindArgs (PySem.W.ksFn x qual (defArgs st) (defBody st) (defScope st) .none kV doc pm an (.ref cda) ct cc) ⟨us ++ rest, []⟩ = (newTuple rest >>= fun t => pure (ps.zip us ++ [(pv, t)])))
    (hbody : ∀ (A : Around) (outer : List Env) (s : Shared) (H : Hp) (vs : List V) (Q : VK) (E : XK), Room k (A.deeper (envF (nfOf st x qual cda cc) f s.heap.objs.size)) → sp vs H Q E →
      ∃ t, PSsA (ncx CX P w K mg base N (nfOf st x qual cda cc) f A outer s H E) (defBody st) (defBody st) t ∧ t { nx := fun _ H' => Q .non H', rt := Q } (startF N vs [some (.ref D)]) H) :
    FnR P w K mg base CX (k + 1) f (fun vs H Q E => ∃ ws rest, vs = ws ++ rest ∧ ws.length = ps.length ∧ rest.length ≤ sizeLine ∧ ∀ p, H p = Option.none → sp (ws ++ [V.ref p]) (upd H p (.tup rest)) Q E) := by
  intro A outer s H us vs Q E hr e0 r hsp
  obtain ⟨ws, rest, ev, hl, hz, hq⟩ := hsp
  subst ev
  refine run_sup F S hr e0 (bnd_star hCX e0 r hl hz hb) fun s2 H2 xs ⟨p, hp, ex, eH⟩ hr' => ?_
  subst ex eH
  exact hbody A outer s2 _ _ Q E hr' (hq p hp)
/-- def m(self, a, ..) with super() in it -/
theorem fn_sup (F : FunS K x qual st f cda cc D kV doc pm ct an) (S : NScope N ps ["__class__"] (defScope st)) (hps : ∀ vs H Q E, sp vs H Q E → vs.length = ps.length)
    (hb : ∀ us : List Value, us.length = ps.length → bindArgs (PySem.W.ksFn x qual (defArgs st) (defBody st) (defScope st) .none kV doc pm an (.ref cda) ct cc) ⟨us, []⟩ = pure (ps.zip us))
    (hbody : ∀ (A : Around) (outer : List Env) (s : Shared) (H : Hp) (vs : List V) (Q : VK) (E : XK), Room k (A.deeper (envF (nfOf st x qual cda cc) f s.heap.objs.size)) → sp vs H Q E →
      ∃ t, PSsA (ncx CX P w K mg base N (nfOf st x qual cda cc) f A outer s H E) (defBody st) (defBody st) t ∧ t { nx := fun _ H' => Q .non H', rt := Q } (startF N vs [some (.ref D)]) H) :
    FnR P w K mg base CX (k + 1) f sp := by
  intro A outer s H us vs Q E hr e0 r hsp
  have hl := hps _ _ _ _ hsp
  refine run_sup F S hr e0 (G := fun xs H2 => xs = vs ∧ H2 = H) (fun A' Ex Q' h => ?_) fun s2 H2 xs ⟨ex, eH⟩ hr' => ?_
  · rw [hb us (by rw [← r.length]; exact hl)]
    exact wpAny_pure (h s H vs us e0 (Un.kept fun _ _ q => q) rfl (fun _ _ q => q) r hl ⟨rfl, rfl⟩)
  · subst ex eH
    exact hbody A outer s2 _ _ Q E hr' hsp
/-- the program's own facts about super -/
structure SupG (P : Program) (K : PySem.W.Frag) (mg : Str → Option Value) : Prop where
  top : (P.main.scope.names.lookup ("super" : Str)).isSome = false
  mgs : mg "super" = none
  opq : PySem.W.nsIn K cStatics "thirdparty.any" = some none
/-- a def's own facts about super -/
structure SupD (P : Program) (K : PySem.W.Frag) (cda D : Addr) : Prop where
  code : ∃ ccl cdd vs ccs file tf, K.lookup cda = some ⟨ccl, cdd, .fields vs, ccs⟩ ∧ vs[2]? = some (.str file tf) ∧ ((P.main.file : Str) == file) = true
  isD : PySem.W.isClsIn K D = true
theorem supT_mk {A : Around} {outer : List Env} {s : Shared} {H : Hp} {E : XK} {ar : Str} (F : FunS K x qual st f cda cc D kV doc pm ct an) (G : SupG P K mg) (S : SupD P K cda D) (h1 : (defScope st).names.lookup ("super" : Str) = some .globalImplicit) (h2 : (defScope st).names.lookup ("__class__" : Str) = some .free)
    (h3 : (defScope st).names.lookup ar = some .local) (h4 : ∃ a, ((defArgs st).posonlyargs ++ (defArgs st).args).head? = some a ∧ a.arg = ar) :
    SupT (ncx CX P w K mg base N (nfOf st x qual cda cc) f A outer s H E) f cda cc D ar := by
  obtain ⟨oc, od, osl, lk⟩ := F.lk
  exact ⟨h1, h2, rfl, rfl, rfl, ⟨oc, od, _, osl, lk, h4⟩, S.code, F.cell, S.isD, G.top, G.mgs, G.opq, h3⟩
end
end Cs

set_option Elab.async false
set_option linter.all false
set_option maxRecDepth 100000
set_option maxHeartbeats 4000000
set_option pp.maxSteps 600
/-! Kinds, ends, and how a rule is made. -/
namespace Cs
open PySem L2
def RES : List Str := ["hold", "look", "do", "row", "one", "all", "new", "give", "take", "join", "other", "if", "and", "or", "then", "gone"]
/-- a word that is not barred -/
def Kind (z : Str) : Prop := Word z ∧ z ∉ RES
/-- one to three kinds, none twice -/
structure Kinds (ks : List Str) : Prop where
  lo : 1 ≤ ks.length
  hi : ks.length ≤ 3
  nd : ks.Nodup
  kd : ∀ z ∈ ks, Kind z
/-- the module's tuple of barred words -/
def ResAt (K : PySem.W.Frag) (r : Addr) : Prop := ∀ H : Hp, SqT K H r (RES.map V.str)
theorem flat_str (zs : List Str) : (zs.map V.str).all flatV = true := by
  rw [List.all_map, List.all_eq_true]
  intro z _
  rfl
theorem in_str (z : Str) (zs : List Str) : inV (.str z) (zs.map V.str) = decide (z ∈ zs) := by
  unfold inV
  rw [List.any_map, Bool.eq_iff_iff, List.any_eq_true, decide_eq_true_eq]
  constructor
  · rintro ⟨y, m, e⟩
    have e : (y == z) = true := e
    rw [← eq_of_beq e]
    exact m
  · intro m
    exact ⟨z, m, beq_self_eq_true z⟩
def kindB (z : Str) : Bool := wordB z && !decide (z ∈ RES)
theorem kindB_of {z : Str} (h : Kind z) : kindB z = true := by
  unfold kindB
  rw [wordB_of h.1, decide_eq_false h.2]
  rfl
def spIsKind (K : PySem.W.Frag) : Sp := fun vs H Q _ => (∃ z : Str, vs = [.str z] ∧ z.length ≤ 100000 ∧ ∀ H', Same H H' → Q (.bl (kindB z)) H') ∨ (∃ x ty, vs = [x] ∧ TyX K H x (.type ty) ∧ kitB ty "str" = some false ∧ Q (.bl false) H)
def spIsBound (K : PySem.W.Frag) : Sp := fun vs H Q _ => (∃ n : Int, vs = [.int n] ∧ Q (.bl (decide (0 ≤ n) && decide (n ≤ 9))) H) ∨ (∃ x, vs = [x] ∧ NotInt K H x ∧ Q (.bl false) H)
def spDistinctT (K : PySem.W.Frag) : Sp := fun vs H Q _ => ∃ (a : Addr) (zs : List Str), vs = [.ref a] ∧ SqT K H a (zs.map V.str) ∧ zs.length ≤ 1000 ∧
  ∀ (p : Addr) (H' : Hp) (ws : List Str), H p = none → Same H H' → H' p = some (.lst (ws.map V.str)) → Asc ws → (∀ z, z ∈ ws ↔ z ∈ zs) → ws.length ≤ zs.length → Q (.ref p) H'
theorem nd_len {xs ys : List Str} (h : xs.Nodup) (k : ∀ z ∈ xs, z ∈ ys) : xs.length ≤ ys.length := by
  induction xs generalizing ys with
  | nil => exact Nat.zero_le _
  | cons x xs ih =>
    obtain ⟨h1, h2⟩ := List.nodup_cons.mp h
    have hx := k x List.mem_cons_self
    have := ih (ys := ys.erase x) h2 fun z hz => (List.mem_erase_of_ne (fun (e : z = x) => h1 (e ▸ hz))).mpr (k z (List.mem_cons_of_mem _ hz))
    rw [List.length_erase_of_mem hx] at this
    have : 0 < ys.length := List.length_pos_of_mem hx
    rw [List.length_cons]
    omega
section
variable {P : Program} {w : World} {K : PySem.W.Frag} {mg : Str → Option Value} {base : Heap}
theorem Same.seqT {H H' : Hp} {a : Addr} {xs : List V} (s : Same H H') (h : SqT K H a xs) : SqT K H' a xs := by
  rcases h with h | h
  · left
    rcases h with h | ⟨o, h⟩
    · exact .inl (s _ _ h)
    · exact .inr ⟨o, s _ _ h⟩
  · exact .inr h
theorem ok_is_kind {f fIw rR : Addr} {fd fdIw : FuncData} (F : Fun K "is_kind" "is_kind" s_is_kind f fd) (g : Bi mg) (FIw : Def P w K mg base CX0 1 "is_word" ["thing"] (spIsWord K) fIw fdIw) (mRES : mg "RESERVED" = some (.ref rR)) (hR : ResAt K rR) : FnOk P w K mg base CX0 2 f fd ["thing"] (spIsKind K) := by
  obtain ⟨GIw, mIw, _, bIw⟩ := id FIw
  refine F.ok sc_is_kind (fun vs H Q E h => ?_) (fun cdv A outer s H vs Q E hr h => ?_)
  · rcases h with ⟨_, rfl, _⟩ | ⟨_, _, rfl, _⟩ <;> rfl
  · have hrIw : Room 1 _ := hr.mono (by decide)
    refine ⟨_, (pss_one (ps_ret (pe_and (pe_call GIw hrIw rfl mIw FIw.kp bIw .nil pass0 (pa_cons (pv 0) pa_nil)) (pe_one (pe_cmpR op_notIn_seq (pv 0) (pe_glob (v := .ref rR) rfl mRES rfl) (by rfl)))))), ?_⟩
    rcases h with ⟨z, rfl, hz, q⟩ | ⟨x, ty, rfl, ht, hc, q⟩
    · refine ⟨_, rfl, .inl ⟨z, rfl, hz, fun H1 s1 => ⟨_, rfl, ?_⟩⟩⟩
      have q1 := q H1 s1
      unfold kindB at q1
      cases e : wordB z with
      | false =>
        rw [e] at q1
        exact iteF q1
      | true =>
        rw [e] at q1
        refine iteT ⟨_, rfl, rR, _, rfl, .inr (hR H1), rfl, flat_str RES, ?_⟩
        rw [in_str]
        exact q1
    · exact ⟨_, rfl, .inr ⟨x, ty, rfl, ht, hc, _, rfl, iteF q⟩⟩
theorem ok_is_bound {f fIi : Addr} {fd fdIi : FuncData} (F : Fun K "is_bound" "is_bound" s_is_bound f fd) (g : Bi mg) (FIi : Def P w K mg base CX0 1 "is_integer" ["thing"] (spIsInteger K) fIi fdIi) : FnOk P w K mg base CX0 2 f fd ["thing"] (spIsBound K) := by
  obtain ⟨GIi, mIi, _, bIi⟩ := id FIi
  refine F.ok sc_is_bound (fun vs H Q E h => ?_) (fun cdv A outer s H vs Q E hr h => ?_)
  · rcases h with ⟨_, rfl, _⟩ | ⟨_, rfl, _⟩ <;> rfl
  · have hrIi : Room 1 _ := hr.mono (by decide)
    refine ⟨_, (pss_one (ps_ret (pe_and (pe_call GIi hrIi rfl mIi FIi.kp bIi .nil pass0 (pa_cons (pv 0) pa_nil)) (pe_one (pe_chain op_le op_le pe_int (pv 0) pe_int))))), ?_⟩
    rcases h with ⟨n, rfl, q⟩ | ⟨x, rfl, hx, q⟩
    · refine ⟨_, rfl, .inl ⟨n, rfl, _, rfl, iteT ?_⟩⟩
      refine ⟨_, rfl, _, _, rfl, rfl, _, rfl, ?_⟩
      by_cases c : (0 : Int) ≤ n
      · rw [decide_eq_true c] at q ⊢
        exact iteT ⟨_, _, rfl, rfl, q⟩
      · rw [decide_eq_false c] at q ⊢
        exact iteF q
    · exact ⟨_, rfl, .inr ⟨x, rfl, hx, _, rfl, iteF q⟩⟩
theorem ok_distinctT {f : Addr} {fd : FuncData} (F : Fun K "distinct" "distinct" s_distinct f fd) (g : Bi mg) : FnOk P w K mg base CX0 1 f fd ["words"] (spDistinctT K) := by
  refine F.ok sc_distinct (fun vs H Q E h => ?_) (fun cdv A outer s H vs Q E hr h => ?_)
  · obtain ⟨_, _, rfl, _⟩ := h
    rfl
  · obtain ⟨a, zs, rfl, ha, hl, q⟩ := h
    refine ⟨_, (pss_one (ps_ret (pe_callB (cr_sortT rfl) (by rfl) g.sorted (by decide +kernel) (pa_cons (pe_scT (own := [("word", 1)]) (g := gName 1)  (by rfl) sc_distinct.nd (pi_tup (pv 0)) (blkOk_by (own := [("word", 1)]) (N := ["words", "word"]) (sc := defScope s_distinct) (by decide +kernel)) (fun _ _ _ _ _ => (pg_name (i := 1) sc_distinct.nd rfl (Or.inl rfl))) (fun _ _ _ _ _ => pts_nil) (fun _ _ _ _ _ => (pe_callTy SkE.call_str_str (by rfl) g.str (by decide +kernel) (pa_cons (pv 1) pa_nil)))) pa_nil)))), ?_⟩
    refine ⟨_, rfl, a, rfl, ⟨_, ha⟩, fun D hD => ?_⟩
    refine scT_it walk_tup (fun i H' => Same H H' ∧ H' D = some (TSetO w D (once (zs.take i)))) ⟨Same.new hD, upd_same⟩ (fun i H' _ h => Cs.Same.seqT h.1 ha) ?_ ?_
    · rintro i x H' H2 hi ⟨s', hD'⟩ ⟨rfl, hx⟩
      rw [List.length_map] at hi
      have ex : x = V.str zs[i] := by
        rw [List.getElem?_map, List.getElem?_eq_getElem hi] at hx
        exact (Option.some.inj hx).symm
      subst ex
      refine ⟨rfl, yes_it ?_⟩
      refine ⟨_, rfl, _, rfl, zs[i], _, rfl, hD', ?_, ?_, ?_⟩
      · have h1 := once_len (zs.take i)
        rw [List.length_take] at h1
        exact Nat.lt_of_le_of_lt (show (once (zs.take i)).length + 1 ≤ 1001 by omega) (by decide)
      · exact fun b o e => by rw [upd_ne (ne_of_none e hD)]; exact s' b o e
      · rw [upd_same, List.take_succ, List.getElem?_eq_getElem hi]
        show some (TSetO w D (addT (once (zs.take i)) zs[i])) = some (TSetO w D (once (zs.take i ++ [zs[i]])))
        rw [once_snoc]
    · rintro H' ⟨s', hD'⟩
      rw [List.length_map, List.take_length] at hD'
      have h1 := once_len zs
      refine ⟨D, _, rfl, hD', by omega, fun ys p hp hs hn => ?_⟩
      refine q p _ ys (s'.free hn) (s'.trans (Same.new hn)) upd_same (asc_of_sorted hs (hp.nodup_iff.mpr (once_nodup zs))) (fun z => by rw [hp.mem_iff, once_mem]) (by rw [hp.length_eq]; exact h1)
/-! ### the class Rule -/
/-- a class whose objects have kinds, a least and a most -/
structure RC (K : PySem.W.Frag) (C : Addr) : Prop where
  cl : Cls K C
  nk : NoAttr K C "kinds"
  nl : NoAttr K C "least"
  nm : NoAttr K C "most"
def spRuleB (C : Addr) : Sp := fun vs H Q _ => ∃ (x kt dx : Addr) (fs : List (Str × V)) (ks : List Str), vs = [.ref x, .ref kt] ∧ H x = some (.ins C dx fs) ∧ fs.length < 900 ∧ H kt = some (.tup (ks.map V.str)) ∧ Kinds ks ∧
  ∀ H', H' x = some (.ins C dx (putF "kinds" (.ref kt) fs)) → (∀ b o, H b = some o → b ≠ x → H' b = some o) → Q .non H'
def spRule (C : Addr) : Sp := fun vs H Q _ => ∃ (x dx : Addr) (fs : List (Str × V)) (ks : List Str), vs = .ref x :: ks.map V.str ∧ H x = some (.ins C dx fs) ∧ fs.length < 900 ∧ Kinds ks ∧
  ∀ (kt : Addr) (H' : Hp), H kt = none → H' kt = some (.tup (ks.map V.str)) → H' x = some (.ins C dx (putF "kinds" (.ref kt) fs)) → (∀ b o, H b = some o → b ≠ x → H' b = some o) → Q .non H'
theorem rule_body {C f fIk fDt : Addr} {fdIk fdDt : FuncData} {cdv : Value} {A : Around} {outer : List Env} {s : Shared} {H : Hp} {vs : List V} {Q : VK} {E : XK} (g : Bi mg) (R : RC K C)
    (FIk : Def P w K mg base CX0 2 "is_kind" ["thing"] (spIsKind K) fIk fdIk) (FDt : Def P w K mg base CX0 1 "distinct" ["words"] (spDistinctT K) fDt fdDt)
    (hr : Room 2 (A.deeper (PyProof.Rows.envOfC "Rule.__init__" (defScope s_Rule_init) s.heap.objs.size f cdv))) (h : spRuleB C vs H Q E) :
    ∃ t, PSs (cxOf CX0 P w K mg base ["self", "kinds", "kind"] "Rule.__init__" (defScope s_Rule_init) f cdv A outer s H E).nox (defBody s_Rule_init) t ∧ t { nx := fun _ H' => Q .non H', rt := Q } (L2.start ["self", "kinds", "kind"] vs) H := by
  obtain ⟨GIk, mIk, _, bIk⟩ := id FIk
  obtain ⟨GDi, mDi, _, bDi⟩ := id FDt
  have FDi := FDt
  have hrIk : Room 2 _ := hr
  have hrDi : Room 1 _ := hr.mono (by decide)
  obtain ⟨x, kt, dx, fs, ks, rfl, hx, hfs, hkt, hK, k⟩ := h
  refine ⟨_, (pss_cons (ps_if (PW.pt (pw_or (pt_not (pt_chain op_le op_le pe_int (pe_callB call_len (by rfl) g.len PySem.boot_len (pa_cons (pv 1) pa_nil)) pe_int)) (pw_or1 (pt_not (pt_val (pe_callB (cr_all rfl) (by rfl) g.all (by decide +kernel) (pa_cons (pe_lc (own := [("kind", 2)]) (g := gName 2)  (by rfl) sc_Rule_init.nd (pi_tup (pv 1)) (blkOk_by (own := [("kind", 2)]) (N := ["self", "kinds", "kind"]) (sc := defScope s_Rule_init) (by decide +kernel)) (fun _ _ _ _ _ => (pg_name (i := 2) sc_Rule_init.nd rfl (Or.inl rfl))) (fun _ _ _ _ _ => pts_nil) (fun _ _ _ _ _ => (pe_call GIk hrIk rfl mIk FIk.kp bIk .nil pass0 (pa_cons (pv 2) pa_nil)))) pa_nil))))))) (pss_one ps_never) pss_nil)
      (pss_cons (ps_if (pt_cmpR op_lt (pe_callB call_len (by rfl) g.len PySem.boot_len (pa_cons (pe_call GDi hrDi rfl mDi FDi.kp bDi .nil pass0 (pa_cons (pv 1) pa_nil)) pa_nil)) (pe_callB call_len (by rfl) g.len PySem.boot_len (pa_cons (pv 1) pa_nil)) (nomark _)) (pss_one ps_never) pss_nil)
      (pss_one (ps_fld (pv 0) (pe_callTy call_tuple_of (by rfl) g.tuple (by decide +kernel) (pa_cons (pv 1) pa_nil)) rfl)))), ?_⟩
  have hl1 := hK.lo
  have hl2 := hK.hi
  refine ⟨_, rfl, _, _, rfl, .inr ⟨_, SqT.of hkt, rfl⟩, _, _, rfl, rfl, _, rfl, ?_⟩
  rw [List.length_map, decide_eq_true (show (1 : Int) ≤ (ks.length : Int) by omega)]
  refine iteT ⟨_, _, rfl, rfl, _, rfl, ?_⟩
  rw [decide_eq_true (show (ks.length : Int) ≤ 3 by omega)]
  refine iteF ?_
  refine ⟨_, rfl, kt, rfl, ⟨_, SqT.of hkt⟩, fun D hD => lc_valsT (ys := ks.map fun _ => V.bl true) (by rw [List.length_map, List.length_map]) hkt hD (by rw [List.length_map]; omega) (fun _ => rfl) (fun i a b ha hb H' s' Qe qk => ?_) fun H1 s1 hD1 => ?_⟩
  · rw [List.getElem?_map] at ha hb
    cases e : ks[i]? with
    | none => rw [e] at ha; cases ha
    | some z =>
      rw [e] at ha hb
      obtain rfl := Option.some.inj ha
      obtain rfl := Option.some.inj hb
      have hz := hK.kd z (List.mem_of_getElem? e)
      refine ⟨_, rfl, .inl ⟨z, rfl, Nat.le_trans hz.1.2.1 (by decide), fun H2 s2 => ?_⟩⟩
      rw [kindB_of hz]
      exact qk H2 s2
  refine ⟨D, ks.map fun _ => true, rfl, SqL.of (by rw [hD1, List.map_map]; rfl), ?_⟩
  rw [show (ks.map fun _ => true).all id = true by rw [List.all_map, List.all_eq_true]; intro _ _; rfl]
  refine ⟨_, rfl, iteF ?_⟩
  refine ⟨_, rfl, kt, ks, rfl, SqT.of (s1 _ _ hkt), by omega, fun p H2 ws hp s2 h2 ha hm hle => ?_⟩
  have hlen : ws.length = ks.length := Nat.le_antisymm hle (nd_len hK.nd fun z hz => (hm z).mpr hz)
  have s12 := s1.trans s2
  have hkt2 := s12 _ _ hkt
  refine ⟨_, _, rfl, .inl ⟨_, SqL.of h2, rfl⟩, _, rfl, _, _, rfl, .inr ⟨_, SqT.of hkt2, rfl⟩, _, _, rfl, rfl, _, rfl, ?_⟩
  rw [List.length_map, List.length_map, hlen, decide_eq_false (Int.lt_irrefl _)]
  refine iteF ?_
  have nxk : x ≠ kt := ne_of hx hkt (by intro z; cases z)
  refine ⟨_, rfl, kt, _, rfl, .inr ⟨SqT.of hkt2, _, rfl, x, C, dx, fs, rfl, s12 _ _ hx, R.cl, R.nk, by omega, ?_⟩⟩
  exact k _ upd_same fun b o e n => by rw [upd_ne n]; exact s12 _ _ e
theorem ok_rule {C f fIk fDt : Addr} {fdIk fdDt : FuncData} {oc od kV doc pm an cdv ct osl} (g : Bi mg) (R : RC K C) (FIk : Def P w K mg base CX0 2 "is_kind" ["thing"] (spIsKind K) fIk fdIk) (FDt : Def P w K mg base CX0 1 "distinct" ["words"] (spDistinctT K) fDt fdDt)
    (lk : K.lookup f = some ⟨oc, od, .func (PySem.W.fnOf "__init__" "Rule.__init__" (defArgs s_Rule_init) (defBody s_Rule_init) (defScope s_Rule_init) .none kV doc pm an cdv ct), osl⟩) (hcd : PySem.W.codeIn K cdv "Rule.__init__" = true) :
    FnR P w K mg base CX0 3 f (spRule C) := by
  have G := StX.fn_star (P := P) (w := w) (mg := mg) (base := base) (CX := CX0) (k := 2) (ps := ["self"]) (pv := "kinds") (sp := spRuleB C) lk hcd sc_Rule_init StX.cxUp_none
    (fun us rest hl => match us, rest, hl with | [a], [], _ => rfl | [a], r :: rs, _ => rfl)
    (fun A outer s H vs Q E hr h => by
      obtain ⟨t, a, b⟩ := rule_body (P := P) (w := w) (mg := mg) (base := base) (outer := outer) (s := s) g R FIk FDt hr h
      exact ⟨t, a.nox, b⟩)
  refine G.imp fun vs H Q E h => ?_
  obtain ⟨x, dx, fs, ks, rfl, hx, hfs, hK, k⟩ := h
  have hl2 := hK.hi
  refine ⟨[.ref x], ks.map V.str, rfl, rfl, by rw [List.length_map]; exact Nat.le_trans hl2 (by decide), fun p hp => ?_⟩
  have s1 : Same H (upd H p (.tup (ks.map V.str))) := Same.new hp
  refine ⟨x, p, dx, fs, ks, rfl, s1 _ _ hx, hfs, upd_same, hK, fun H' h1 h2 => k p H' hp ?_ h1 fun b o e n => h2 b o (s1 _ _ e) n⟩
  exact h2 _ _ upd_same (ne_of_none hx hp).symm
end
end Cs

set_option Elab.async false
set_option linter.all false
set_option maxRecDepth 100000
set_option maxHeartbeats 4000000
set_option pp.maxSteps 600
/-! AtMost, AtLeast, Between, Exactly: how they are made. -/
namespace Cs
open PySem L2 NdefX
theorem putF_len (f : Str) (v : V) : ∀ fs : List (Str × V), (putF f v fs).length ≤ fs.length + 1
  | [] => Nat.le_refl _
  | (g, x) :: r => by
    show (if g = f then (g, v) :: r else (g, x) :: putF f v r).length ≤ _
    split
    · exact Nat.le_succ _
    · have := putF_len f v r
      simp only [List.length_cons]
      omega
/-- what an __init__ leaves: the fields by F, the kinds' tuple new -/
def RulNew (C : Addr) (H : Hp) (Q : VK) (x dx : Addr) (ks : List Str) (F : Addr → List (Str × V)) : Prop :=
  ∀ (kt : Addr) (H' : Hp), H kt = none → H' kt = some (.tup (ks.map V.str)) → H' x = some (.ins C dx (F kt)) → (∀ b o, H b = some o → b ≠ x → H' b = some o) → Q .non H'
def Bnd9 (n : Int) : Prop := 0 ≤ n ∧ n ≤ 9
/-- __init__(self, n.., *kinds) behind the binding, and as it is called -/
def spIB (bd : Nat) (C : Addr) (ok : List Int → Prop) (F : List Int → List (Str × V) → Addr → List (Str × V)) : Sp := fun vs H Q _ => ∃ (x kt dx : Addr) (ns : List Int) (fs : List (Str × V)) (ks : List Str), vs = (.ref x :: ns.map V.int) ++ [.ref kt] ∧ ok ns ∧ H x = some (.ins C dx fs) ∧ fs.length < bd ∧ H kt = some (.tup (ks.map V.str)) ∧ Kinds ks ∧ RulNew C H Q x dx ks (F ns fs)
def spI (bd : Nat) (C : Addr) (ok : List Int → Prop) (F : List Int → List (Str × V) → Addr → List (Str × V)) : Sp := fun vs H Q _ => ∃ (x dx : Addr) (ns : List Int) (fs : List (Str × V)) (ks : List Str), vs = .ref x :: (ns.map V.int ++ ks.map V.str) ∧ ok ns ∧ H x = some (.ins C dx fs) ∧ fs.length < bd ∧ Kinds ks ∧ RulNew C H Q x dx ks (F ns fs)
def okAM (ns : List Int) : Prop := ∃ m, ns = [m] ∧ Bnd9 m
def fsAM (ns : List Int) (fs : List (Str × V)) (kt : Addr) : List (Str × V) := putF "most" (.int (ns.getD 0 0)) (putF "least" (.int 0) (putF "kinds" (.ref kt) fs))
def fsAL1 (ns : List Int) (fs : List (Str × V)) (kt : Addr) : List (Str × V) := putF "least" (.int (ns.getD 0 0)) (putF "kinds" (.ref kt) (putF "most" .non fs))
def okAL2 (ns : List Int) : Prop := ∃ l m, ns = [l, m] ∧ Bnd9 l ∧ Bnd9 m
def fsAL2 (ns : List Int) (fs : List (Str × V)) (kt : Addr) : List (Str × V) := putF "least" (.int (ns.getD 0 0)) (fsAM [ns.getD 1 0] (putF "most" .non fs) kt)
def okBt (ns : List Int) : Prop := ∃ l m, ns = [l, m] ∧ Bnd9 l ∧ Bnd9 m ∧ l ≤ m
def fsEx (ns : List Int) (fs : List (Str × V)) (kt : Addr) : List (Str × V) := fsAL2 [ns.getD 0 0, ns.getD 0 0] fs kt
theorem spI_of {P : Program} {w : World} {K : PySem.W.Frag} {mg : Str → Option Value} {base : Heap} {k : Nat} {f C : Addr} {ok : List Int → Prop} {F : List Int → List (Str × V) → Addr → List (Str × V)} {n bd : Nat} (hn : ∀ ns, ok ns → ns.length = n)
    (G : FnR P w K mg base CX0 k f (fun vs H Q E => ∃ ws rest, vs = ws ++ rest ∧ ws.length = n + 1 ∧ rest.length ≤ sizeLine ∧ ∀ p, H p = Option.none → spIB bd C ok F (ws ++ [V.ref p]) (upd H p (.tup rest)) Q E)) : FnR P w K mg base CX0 k f (spI bd C ok F) := by
  refine G.imp fun vs H Q E h => ?_
  obtain ⟨x, dx, ns, fs, ks, rfl, ho, hx, hfs, hK, k⟩ := h
  have h3 := hK.hi
  refine ⟨.ref x :: ns.map V.int, ks.map V.str, rfl, by rw [List.length_cons, List.length_map, hn ns ho], by rw [List.length_map]; exact Nat.le_trans h3 (by decide), fun p hp => ?_⟩
  have s1 : Same H (upd H p (.tup (ks.map V.str))) := Same.new hp
  refine ⟨x, p, dx, ns, fs, ks, rfl, ho, s1 _ _ hx, hfs, upd_same, hK, fun kt H' hk h1 h2 h4 => ?_⟩
  exact k kt H' (s1.free hk) h1 h2 fun b o e n => h4 b o (s1 _ _ e) n
section
variable {P : Program} {w : World} {K : PySem.W.Frag} {mg : Str → Option Value} {base : Heap} {kV doc pm ct : Value} {an : Option Addr} {f fIb fR C D cda cc : Addr} {fdIb : FuncData}
theorem ok_atmost (g : Bi mg) (R : RC K C) (FIb : Def P w K mg base CX0 2 "is_bound" ["thing"] (spIsBound K) fIb fdIb) (Fs : FunS K "__init__" "AtMost.__init__" s_AtMost_init f cda cc D kV doc pm ct an) (SG : SupG P K mg) (SD : SupD P K cda D)
    (S : Sup K C D "__init__" fR) (FR : FnR P w K mg base CX0 3 fR (spRule C)) : FnR P w K mg base CX0 4 f (spI 890 C okAM fsAM) := by
  obtain ⟨GIb, mIb, _, bIb⟩ := id FIb
  refine spI_of (n := 1) (fun ns ⟨m, e, _⟩ => by rw [e]; rfl) (fn_supS (ps := ["self", "most"]) (pv := "kinds") Fs sc_AtMost_init StX.cxUp_none (fun us rest hl => match us, rest, hl with | [a, b], [], _ => rfl | [a, b], r :: rs, _ => rfl) fun A outer s H vs Q E hr h => ?_)
  obtain ⟨x, kt, dx, ns, fs, ks, rfl, ⟨m, rfl, hm⟩, hx, hfs, hkt, hK, k⟩ := h
  have TS := supT_mk (CX := CX0) (w := w) (base := base) (N := ["self", "most", "kinds", "__class__"]) (A := A) (outer := outer) (s := s) (H := H) (E := E) (ar := "self") Fs SG SD rfl rfl rfl ⟨_, rfl, rfl⟩
  have hrIb : Room 2 _ := hr.mono (by decide)
  have hrS : Room 3 _ := hr
  refine ⟨_, (pssa_cons (PSA.of (ps_if (pt_not (pt_val (pe_call GIb hrIb rfl mIb FIb.kp bIb .nil pass0 (pa_cons (pv 1) pa_nil)))) (pss_one ps_never) pss_nil))
      (pssa_cons (psa_expr (pea_sup1 (i := 0) TS rfl hrS pass0 (pv 2)))
      (pssa_cons (PSA.of (ps_fld (pv 0) pe_int rfl))
      (pssa_one (PSA.of (ps_fld (pv 0) (pv 1) rfl)))))), ?_⟩
  refine ⟨_, rfl, .inl ⟨m, rfl, ?_⟩⟩
  rw [decide_eq_true hm.1, decide_eq_true hm.2]
  refine ⟨_, rfl, iteF ?_⟩
  refine ⟨x, spRule C, ⟨C, dx, fs, fR, rfl, hx, S, FR⟩, _, rfl, kt, _, rfl, .inl (SqT.of hkt), ?_⟩
  refine ⟨x, dx, fs, ks, rfl, hx, by omega, hK, fun kt2 H1 hk1 hk2 h1 kp1 => ?_⟩
  have nxk : x ≠ kt2 := ne_of_none hx hk1
  have l1 := putF_len "kinds" (.ref kt2) fs
  refine ⟨_, rfl, x, C, dx, _, rfl, h1, R.cl, R.nl, by omega, ?_⟩
  have l2 := putF_len "least" (.int 0) (putF "kinds" (.ref kt2) fs)
  refine ⟨_, rfl, _, rfl, x, C, dx, _, rfl, upd_same, R.cl, R.nm, by omega, ?_⟩
  refine k kt2 _ hk1 (by rw [upd_ne nxk.symm, upd_ne nxk.symm]; exact hk2) upd_same fun b o e n => ?_
  rw [upd_ne n, upd_ne n]
  exact kp1 b o e n
theorem ok_atleast1 (g : Bi mg) (R : RC K C) (FIb : Def P w K mg base CX0 2 "is_bound" ["thing"] (spIsBound K) fIb fdIb) (Fs : FunS K "__init__" "AtLeast.__init__" s_AtLeast_init f cda cc D kV doc pm ct an) (SG : SupG P K mg) (SD : SupD P K cda D)
    (S : Sup K C D "__init__" fR) (FR : FnR P w K mg base CX0 3 fR (spRule C)) : FnR P w K mg base CX0 4 f (spI 890 C okAM fsAL1) := by
  obtain ⟨GIb, mIb, _, bIb⟩ := id FIb
  refine spI_of (n := 1) (fun ns ⟨m, e, _⟩ => by rw [e]; rfl) (fn_supS (ps := ["self", "least"]) (pv := "rest") Fs sc_AtLeast_init StX.cxUp_none (fun us rest hl => match us, rest, hl with | [a, b], [], _ => rfl | [a, b], r :: rs, _ => rfl) fun A outer s H vs Q E hr h => ?_)
  obtain ⟨x, kt, dx, ns, fs, ks, rfl, ⟨m, rfl, hm⟩, hx, hfs, hkt, hK, k⟩ := h
  have TS := supT_mk (CX := CX0) (w := w) (base := base) (N := ["self", "least", "rest", "__class__"]) (A := A) (outer := outer) (s := s) (H := H) (E := E) (ar := "self") Fs SG SD rfl rfl rfl ⟨_, rfl, rfl⟩
  have hrIb : Room 2 _ := hr.mono (by decide)
  have hrS : Room 3 _ := hr
  refine ⟨_, (pssa_cons (PSA.of (ps_if (pt_not (pt_val (pe_call GIb hrIb rfl mIb FIb.kp bIb .nil pass0 (pa_cons (pv 1) pa_nil)))) (pss_one ps_never) pss_nil))
      (pssa_cons (PSA.of (ps_fld (pv 0) pe_non rfl))
      (pssa_cons (psa_expr (pea_sup1 (i := 0) TS rfl hrS pass0 (pv 2)))
      (pssa_one (PSA.of (ps_fld (pv 0) (pv 1) rfl)))))), ?_⟩
  refine ⟨_, rfl, .inl ⟨m, rfl, ?_⟩⟩
  rw [decide_eq_true hm.1, decide_eq_true hm.2]
  refine ⟨_, rfl, iteF ?_⟩
  have nxt : x ≠ kt := ne_of hx hkt (by intro z; cases z)
  refine ⟨_, rfl, x, C, dx, fs, rfl, hx, R.cl, R.nm, by omega, ?_⟩
  have l0 := putF_len "most" .non fs
  refine ⟨x, spRule C, ⟨C, dx, _, fR, rfl, upd_same, S, FR⟩, _, rfl, kt, _, rfl, .inl (SqT.of (by rw [upd_ne nxt.symm]; exact hkt)), ?_⟩
  refine ⟨x, dx, _, ks, rfl, upd_same, by omega, hK, fun kt2 H1 hk1 hk2 h1 kp1 => ?_⟩
  have nxk : x ≠ kt2 := ne_of_none upd_same hk1
  have hk0 : H kt2 = none := by rw [upd_ne nxk.symm] at hk1; exact hk1
  have l1 := putF_len "kinds" (.ref kt2) (putF "most" .non fs)
  refine ⟨_, rfl, _, rfl, x, C, dx, _, rfl, h1, R.cl, R.nl, by omega, ?_⟩
  refine k kt2 _ hk0 (by rw [upd_ne nxk.symm]; exact hk2) upd_same fun b o e n => ?_
  rw [upd_ne n]
  exact kp1 b o (by rw [upd_ne n]; exact e) n
theorem ok_atleast2 (g : Bi mg) (R : RC K C) (FIb : Def P w K mg base CX0 2 "is_bound" ["thing"] (spIsBound K) fIb fdIb) (Fs : FunS K "__init__" "AtLeast.__init__" s_AtLeast_init f cda cc D kV doc pm ct an) (SG : SupG P K mg) (SD : SupD P K cda D)
    (S : Sup K C D "__init__" fR) (FR : FnR P w K mg base CX0 4 fR (spI 890 C okAM fsAM)) : FnR P w K mg base CX0 5 f (spI 880 C okAL2 fsAL2) := by
  obtain ⟨GIb, mIb, _, bIb⟩ := id FIb
  have G := fn_supS (P := P) (w := w) (mg := mg) (base := base) (CX := CX0) (k := 4) (ps := ["self", "least"]) (pv := "rest") (sp := fun vs H Q _ => ∃ (x kt dx : Addr) (l m : Int) (fs : List (Str × V)) (ks : List Str), vs = [.ref x, .int l, .ref kt] ∧ Bnd9 l ∧ Bnd9 m ∧ H x = some (.ins C dx fs) ∧ fs.length < 880 ∧ H kt = some (.tup (.int m :: ks.map V.str)) ∧ Kinds ks ∧ RulNew C H Q x dx ks (fsAL2 [l, m] fs))
    Fs sc_AtLeast_init StX.cxUp_none (fun us rest hl => match us, rest, hl with | [a, b], [], _ => rfl | [a, b], r :: rs, _ => rfl) fun A outer s H vs Q E hr h => by
    obtain ⟨x, kt, dx, l, m, fs, ks, rfl, hl, hm, hx, hfs, hkt, hK, k⟩ := h
    have TS := supT_mk (CX := CX0) (w := w) (base := base) (N := ["self", "least", "rest", "__class__"]) (A := A) (outer := outer) (s := s) (H := H) (E := E) (ar := "self") Fs SG SD rfl rfl rfl ⟨_, rfl, rfl⟩
    have hrIb : Room 2 _ := hr.mono (by decide)
    have hrS : Room 4 _ := hr
    refine ⟨_, (pssa_cons (PSA.of (ps_if (pt_not (pt_val (pe_call GIb hrIb rfl mIb FIb.kp bIb .nil pass0 (pa_cons (pv 1) pa_nil)))) (pss_one ps_never) pss_nil))
      (pssa_cons (PSA.of (ps_fld (pv 0) pe_non rfl))
      (pssa_cons (psa_expr (pea_sup1 (i := 0) TS rfl hrS pass0 (pv 2)))
      (pssa_one (PSA.of (ps_fld (pv 0) (pv 1) rfl)))))), ?_⟩
    refine ⟨_, rfl, .inl ⟨l, rfl, ?_⟩⟩
    rw [decide_eq_true hl.1, decide_eq_true hl.2]
    refine ⟨_, rfl, iteF ?_⟩
    have nxt : x ≠ kt := ne_of hx hkt (by intro z; cases z)
    refine ⟨_, rfl, x, C, dx, fs, rfl, hx, R.cl, R.nm, by omega, ?_⟩
    have l0 := putF_len "most" .non fs
    refine ⟨x, spI 890 C okAM fsAM, ⟨C, dx, _, fR, rfl, upd_same, S, FR⟩, _, rfl, kt, _, rfl, .inl (SqT.of (by rw [upd_ne nxt.symm]; exact hkt)), ?_⟩
    · refine ⟨x, dx, [m], _, ks, rfl, ⟨m, rfl, hm⟩, upd_same, by omega, hK, fun kt2 H1 hk1 hk2 h1 kp1 => ?_⟩
      have nxk : x ≠ kt2 := ne_of_none upd_same hk1
      have hk0 : H kt2 = none := by rw [upd_ne nxk.symm] at hk1; exact hk1
      have l1 := putF_len "kinds" (.ref kt2) (putF "most" .non fs)
      have l2 := putF_len "least" (.int 0) (putF "kinds" (.ref kt2) (putF "most" .non fs))
      have l3 := putF_len "most" (.int m) (putF "least" (.int 0) (putF "kinds" (.ref kt2) (putF "most" .non fs)))
      refine ⟨_, rfl, _, rfl, x, C, dx, _, rfl, h1, R.cl, R.nl, Nat.lt_of_le_of_lt l3 (by omega), ?_⟩
      refine k kt2 _ hk0 (by rw [upd_ne nxk.symm]; exact hk2) upd_same fun b o e n => ?_
      rw [upd_ne n]
      exact kp1 b o (by rw [upd_ne n]; exact e) n
  refine G.imp fun vs H Q E h => ?_
  obtain ⟨x, dx, ns, fs, ks, rfl, ⟨l, m, rfl, hl, hm⟩, hx, hfs, hK, k⟩ := h
  have h3 := hK.hi
  refine ⟨[.ref x, .int l], .int m :: ks.map V.str, rfl, rfl, by rw [List.length_cons, List.length_map]; exact Nat.le_trans (show ks.length + 1 ≤ 4 by omega) (by decide), fun p hp => ?_⟩
  have s1 : Same H (upd H p (.tup (.int m :: ks.map V.str))) := Same.new hp
  exact ⟨x, p, dx, l, m, fs, ks, rfl, hl, hm, s1 _ _ hx, hfs, upd_same, hK, fun kt H' hk h1 h2 h4 => k kt H' (s1.free hk) h1 h2 fun b o e n => h4 b o (s1 _ _ e) n⟩
theorem ok_between (g : Bi mg) (R : RC K C) (FIb : Def P w K mg base CX0 2 "is_bound" ["thing"] (spIsBound K) fIb fdIb) (Fs : FunS K "__init__" "Between.__init__" s_Between_init f cda cc D kV doc pm ct an) (SG : SupG P K mg) (SD : SupD P K cda D)
    (S : Sup K C D "__init__" fR) (FR : FnR P w K mg base CX0 5 fR (spI 880 C okAL2 fsAL2)) : FnR P w K mg base CX0 6 f (spI 880 C okBt fsAL2) := by
  obtain ⟨GIb, mIb, _, bIb⟩ := id FIb
  refine spI_of (n := 2) (fun ns ⟨l, m, e, _⟩ => by rw [e]; rfl) (fn_supS (ps := ["self", "least", "most"]) (pv := "kinds") Fs sc_Between_init StX.cxUp_none (fun us rest hl => match us, rest, hl with | [a, b, c], [], _ => rfl | [a, b, c], r :: rs, _ => rfl) fun A outer s H vs Q E hr h => ?_)
  obtain ⟨x, kt, dx, ns, fs, ks, rfl, ⟨l, m, rfl, hl, hm, hlm⟩, hx, hfs, hkt, hK, k⟩ := h
  have TS := supT_mk (CX := CX0) (w := w) (base := base) (N := ["self", "least", "most", "kinds", "__class__"]) (A := A) (outer := outer) (s := s) (H := H) (E := E) (ar := "self") Fs SG SD rfl rfl rfl ⟨_, rfl, rfl⟩
  have hrIb : Room 2 _ := hr.mono (by decide)
  have hrS : Room 5 _ := hr
  refine ⟨_, (pssa_cons (PSA.of (ps_if (PW.pt (pw_or (pt_not (pt_val (pe_call GIb hrIb rfl mIb FIb.kp bIb .nil pass0 (pa_cons (pv 1) pa_nil)))) (pw_or (pt_not (pt_val (pe_call GIb hrIb rfl mIb FIb.kp bIb .nil pass0 (pa_cons (pv 2) pa_nil)))) (pw_or1 (pt_cmpR op_gt (pv 1) (pv 2) (nomark _)))))) (pss_one ps_never) pss_nil))
      (pssa_one (psa_expr (pea_sup2 (i := 0) TS rfl hrS pass0 (pa_cons (pv 1) (pa_cons (pv 2) (StX.pa_star (pv 3) pa_nil))))))), ?_⟩
  refine ⟨_, rfl, .inl ⟨l, rfl, ?_⟩⟩
  rw [decide_eq_true hl.1, decide_eq_true hl.2]
  refine ⟨_, rfl, iteF ⟨_, rfl, .inl ⟨m, rfl, ?_⟩⟩⟩
  rw [decide_eq_true hm.1, decide_eq_true hm.2]
  refine ⟨_, rfl, iteF ⟨_, rfl, _, rfl, _, _, rfl, rfl, _, rfl, ?_⟩⟩
  rw [decide_eq_false (show ¬ m < l by omega)]
  refine iteF ?_
  refine ⟨x, spI 880 C okAL2 fsAL2, ⟨C, dx, fs, fR, rfl, hx, S, FR⟩, _, rfl, _, rfl, _, rfl, kt, _, rfl, .inl (SqT.of hkt), ?_⟩
  refine ⟨x, dx, [l, m], fs, ks, ?_, ⟨l, m, rfl, hl, hm⟩, hx, hfs, hK, k⟩
  simp
theorem ok_exactly (g : Bi mg) (Fs : FunS K "__init__" "Exactly.__init__" s_Exactly_init f cda cc D kV doc pm ct an) (SG : SupG P K mg) (SD : SupD P K cda D)
    (S : Sup K C D "__init__" fR) (FR : FnR P w K mg base CX0 6 fR (spI 880 C okBt fsAL2)) : FnR P w K mg base CX0 7 f (spI 880 C okAM fsEx) := by
  refine spI_of (n := 1) (fun ns ⟨m, e, _⟩ => by rw [e]; rfl) (fn_supS (ps := ["self", "number"]) (pv := "kinds") Fs sc_Exactly_init StX.cxUp_none (fun us rest hl => match us, rest, hl with | [a, b], [], _ => rfl | [a, b], r :: rs, _ => rfl) fun A outer s H vs Q E hr h => ?_)
  obtain ⟨x, kt, dx, ns, fs, ks, rfl, ⟨m, rfl, hm⟩, hx, hfs, hkt, hK, k⟩ := h
  have TS := supT_mk (CX := CX0) (w := w) (base := base) (N := ["self", "number", "kinds", "__class__"]) (A := A) (outer := outer) (s := s) (H := H) (E := E) (ar := "self") Fs SG SD rfl rfl rfl ⟨_, rfl, rfl⟩
  have hrS : Room 6 _ := hr
  refine ⟨_, (pssa_one (psa_expr (pea_sup2 (i := 0) TS rfl hrS pass0 (pa_cons (pv 1) (pa_cons (pv 1) (StX.pa_star (pv 2) pa_nil)))))), ?_⟩
  refine ⟨x, spI 880 C okBt fsAL2, ⟨C, dx, fs, fR, rfl, hx, S, FR⟩, _, rfl, _, rfl, _, rfl, kt, _, rfl, .inl (SqT.of hkt), ?_⟩
  refine ⟨x, dx, [m, m], fs, ks, ?_, ⟨m, m, rfl, hm, hm, Int.le_refl _⟩, hx, hfs, hK, k⟩
  simp
end
end Cs

set_option Elab.async false
set_option linter.all false
set_option maxRecDepth 100000
set_option maxHeartbeats 8000000
set_option pp.maxSteps 600
/-! The law's kinds: drawn words, moved on by their last letter until they are free. -/
namespace Cs
open PySem L2
/-- a text by its codes -/
abbrev Tx (l : List Nat) : Str := ⟨l.toArray⟩
theorem let_range : LET.cps.toList = (List.range 26).map (97 + ·) := by decide +kernel
theorem mem_let {c : Nat} : c ∈ LET.cps.toList ↔ ∃ i, i < 26 ∧ c = 97 + i := by
  rw [let_range, List.mem_map]
  constructor
  · rintro ⟨i, hi, e⟩
    exact ⟨i, List.mem_range.mp hi, e.symm⟩
  · rintro ⟨i, hi, e⟩
    exact ⟨i, List.mem_range.mpr hi, e.symm⟩
theorem let_at {i : Nat} (h : i < 26) : LET.cps.toList[i]? = some (97 + i) := by
  rw [let_range, List.getElem?_map, List.getElem?_range h]
  rfl
theorem let_index : ∀ i, i < 26 → Builtin.Str.occurrences LET ⟨#[97 + i]⟩ 0 LET.length 1 = [i] := by decide +kernel
/-- the word with its last letter moved on -/
def rot (l : List Nat) (i m : Nat) : Str := Tx (l ++ [97 + (i + m) % 26])
theorem rot_word {l : List Nat} (i m : Nat) (h7 : l.length ≤ 7) (hl : ∀ c ∈ l, c ∈ LET.cps.toList) : Word (rot l i m) := by
  refine ⟨?_, ?_, fun c hc => ?_⟩
  · show 1 ≤ (l ++ [97 + (i + m) % 26]).toArray.size
    simp
  · show (l ++ [97 + (i + m) % 26]).toArray.size ≤ 8
    simp
    omega
  · have hc : c ∈ l ++ [97 + (i + m) % 26] := hc
    rcases List.mem_append.mp hc with q | q
    · exact hl c q
    · rw [List.mem_singleton.mp q]
      exact mem_let.mpr ⟨_, Nat.mod_lt _ (by decide), rfl⟩
theorem word_rot {z : Str} (h : Word z) : ∃ l i, i < 26 ∧ z = rot l i 0 ∧ l.length ≤ 7 ∧ ∀ c ∈ l, c ∈ LET.cps.toList := by
  obtain ⟨⟨ls⟩, ez⟩ : ∃ a, z = ⟨a⟩ := ⟨_, rfl⟩
  subst ez
  obtain ⟨h1, h2, h3⟩ := h
  have h1 : 1 ≤ ls.length := h1
  have h2 : ls.length ≤ 8 := h2
  have ne : ls ≠ [] := by
    rintro rfl
    simp at h1
  have e := List.dropLast_concat_getLast ne
  obtain ⟨i, hi, ei⟩ := mem_let.mp (h3 (ls.getLast ne) (List.getLast_mem ne))
  refine ⟨ls.dropLast, i, hi, ?_, by rw [List.length_dropLast]; omega, fun c hc => h3 c ((List.dropLast_sublist ls).subset hc)⟩
  unfold rot Tx
  rw [Nat.add_zero, Nat.mod_eq_of_lt hi, ← ei, e]
theorem rot_inj {l : List Nat} {i a b : Nat} (ha : a < 26) (hb : b < 26) (h : rot l i a = rot l i b) : a = b := by
  unfold rot Tx at h
  have h := congrArg (fun z : Str => z.cps.toList) h
  have h : l ++ [97 + (i + a) % 26] = l ++ [97 + (i + b) % 26] := h
  have h := List.append_cancel_left h
  have h : 97 + (i + a) % 26 = 97 + (i + b) % 26 := List.cons.inj h |>.1
  omega
theorem rot_free {l : List Nat} {i : Nat} {bs : List Str} (hb : bs.length ≤ 25) (h : ∀ j, j < 26 → rot l i j ∈ bs) : False := by
  have nd : ((List.range 26).map (rot l i)).Nodup := by
    rw [List.Nodup, List.pairwise_map]
    refine List.nodup_range.imp_of_mem fun {a b} ha hb' ne e => ne (rot_inj (List.mem_range.mp ha) (List.mem_range.mp hb') e)
  have := nd_len nd (ys := bs) fun z hz => by
    obtain ⟨j, hj, rfl⟩ := List.mem_map.mp hz
    exact h j (List.mem_range.mp hj)
  rw [List.length_map, List.length_range] at this
  omega
theorem rot_cut (l : List Nat) (c : Nat) : cutS (Tx (l ++ [c])) none (some (-1)) = Tx l := by
  unfold cutS
  have h1 : (Tx (l ++ [c])).length = l.length + 1 := by show (l ++ [c]).toArray.size = _; simp
  have h2 : HT.sIx (l.length + 1) 0 none = 0 := rfl
  have h3 : HT.sIx (l.length + 1) (l.length + 1) (some (-1)) = l.length := by
    unfold HT.sIx
    first
    | (simp; omega)
    | omega
    | simp
  rw [h1, h2, h3]
  show Tx (((l ++ [c]).drop 0).take (l.length - 0)) = Tx l
  simp
theorem tx_cat (a b : List Nat) : Tx a ++ Tx b = Tx (a ++ b) := str_ext (by rw [PySem.Str.cps_append]; simp)
def spKind : Sp := fun vs H Q _ => ∃ (p c tk : Addr) (ts : List Str), vs = [.ref p, .ref tk] ∧ Src H p c ∧ H tk = some (.lst (ts.map V.str)) ∧ ts.length ≤ 9 ∧ tk ≠ p ∧ ∀ (z : Str) (H' : Hp), Kind z → z ∉ ts → Src H' p c → Kp p H H' → Q (.str z) H'
def spKinds : Sp := fun vs H Q _ => ∃ (p c : Addr) (n : Nat), vs = [.ref p, .int n] ∧ Src H p c ∧ n ≤ 9 ∧ ∀ (q : Addr) (H' : Hp) (ks : List Str), H q = none → H' q = some (.lst (ks.map V.str)) → ks.length = n → ks.Nodup → (∀ z ∈ ks, Kind z) → Src H' p c → Kp p H H' → Q (.ref q) H'
def W13 : List Str := ["self", "at", "to", "exactly", "least", "most", "from", "rule", "door", "limit", "begin", "store", "loose"]
theorem w13 : ∀ j : Nat, j < 13 → ∃ z : Str, (W13.map V.str)[j]? = some (.str z) ∧ Word z := by
  intro j hj
  have key : ∀ z ∈ W13, Word z := by
    unfold W13
    intro z hz
    simp only [List.mem_cons, List.not_mem_nil, or_false] at hz
    rcases hz with rfl | rfl | rfl | rfl | rfl | rfl | rfl | rfl | rfl | rfl | rfl | rfl | rfl <;> exact ⟨by decide, by decide, by decide +kernel⟩
  have hl : j < W13.length := hj
  exact ⟨W13[j], by rw [List.getElem?_map, List.getElem?_eq_getElem hl]; rfl, key _ (List.getElem_mem hl)⟩
section
variable {P : Program} {w : World} {K : PySem.W.Frag} {mg : Str → Option Value} {base : Heap}
theorem ok_kind {f fD : Addr} {fd fdD : FuncData} (F : Fun K "_law_kind" "_law_kind" s_l_kind f fd) (g : Bi mg) (FD : Def P w K mg base CX0 2 "_law_draw" ["_law_source_here", "_law_size"] spDraw fD fdD) : FnOk P w K mg base CX0 3 f fd ["_law_source_here", "_law_taken"] spKind := by
  obtain ⟨GD, mD, _, bD⟩ := id FD
  refine F.ok sc_l_kind (fun vs H Q E h => ?_) (fun cdv A outer s H vs Q E hr h => ?_)
  · obtain ⟨_, _, _, _, rfl, _⟩ := h
    rfl
  · obtain ⟨p, c, tk, ts, rfl, S0, htk, hts, ntp, k⟩ := h
    have hrD : Room 2 _ := hr.mono (by decide)
    refine ⟨_, (pss_cons (ps_set (i := 2) sc_l_kind.nd rfl (Or.inl rfl) pe_str)
      (pss_cons (ps_set (i := 3) sc_l_kind.nd rfl (Or.inl rfl) (pe_lst (pa_cons pe_str (pa_cons pe_str (pa_cons pe_str (pa_cons pe_str (pa_cons pe_str (pa_cons pe_str (pa_cons pe_str (pa_cons pe_str (pa_cons pe_str (pa_cons pe_str (pa_cons pe_str (pa_cons pe_str (pa_cons pe_str (pa_cons pe_str pa_nil))))))))))))))))
      (pss_cons (ps_set (i := 3) sc_l_kind.nd rfl (Or.inl rfl) (pe_op op_cat (pv 3) (pe_lst (pa_cons pe_str (pa_cons pe_str pa_nil)))))
      (pss_cons (ps_set (i := 4) sc_l_kind.nd rfl (Or.inl rfl) (pe_lst (pa_cons pe_str (pa_cons pe_str (pa_cons pe_str (pa_cons pe_str (pa_cons pe_str (pa_cons pe_str (pa_cons pe_str (pa_cons pe_str (pa_cons pe_str (pa_cons pe_str (pa_cons pe_str (pa_cons pe_str (pa_cons pe_str pa_nil)))))))))))))))
      (pss_cons (ps_set (i := 5) sc_l_kind.nd rfl (Or.inl rfl) pe_str)
      (pss_cons (ps_for PassesOwn.never rfl (pi_range1 rfl g.range (pa_cons (pe_op op_add pe_int (pe_call GD hrD rfl mD FD.kp bD .nil pass0 (pa_cons (pv 0) (pa_cons pe_int pa_nil)))) pa_nil)) (pg_name (i := 6) sc_l_kind.nd rfl (Or.inl rfl)) (pss_one (ps_set (i := 5) sc_l_kind.nd rfl (Or.inl rfl) (pe_op op_add_str (pv 5) (pe_ix ix_str (pv 2) (pe_call GD hrD rfl mD FD.kp bD .nil pass0 (pa_cons (pv 0) (pa_cons pe_int pa_nil))) (fun _ _ => rfl))))))
      (C8.pss_cut (ps_if (pt_cmpR op_eq (pe_call GD hrD rfl mD FD.kp bD .nil pass0 (pa_cons (pv 0) (pa_cons pe_int pa_nil))) pe_int (nomark _)) (pss_one (ps_set (i := 5) sc_l_kind.nd rfl (Or.inl rfl) (pe_ix ix_list (pv 4) (pe_call GD hrD rfl mD FD.kp bD .nil pass0 (pa_cons (pv 0) (pa_cons pe_int pa_nil))) (fun _ _ => rfl)))) pss_nil)
      (pss_cons (ps_for PassesOwn.never rfl (pi_range1 rfl g.range (pa_cons pe_int pa_nil)) (pg_name (i := 6) sc_l_kind.nd rfl (Or.inl rfl)) (pss_one (ps_if (PW.pt (pw_or (pt_cmpR op_in_seq (pv 5) (pv 1) (by rfl)) (pw_or1 (pt_cmpR op_in_seq (pv 5) (pv 3) (by rfl))))) (pss_one (ps_set (i := 5) sc_l_kind.nd rfl (Or.inl rfl) (pe_op op_add_str (pe_slice sl_str (pv 5) po_none (po_some (pe_un un_neg pe_int))) (pe_ix ix_str (pv 2) (pe_op op_mod (pe_op op_add (pe_m1 PySem.F.slot_str_index PySem.F.type_str_index mt_sindex (pv 2) (pe_ix ix_str (pv 5) (pe_un un_neg pe_int) (fun _ _ => rfl))) pe_int) pe_int) (fun _ _ => rfl))))) pss_nil)))
      (pss_one (ps_ret (pv 5))))))))))), ?_⟩
    refine ⟨by show 14 ≤ sizeLine; decide, fun b1 hb1 => ?_⟩
    generalize hB1 : ([V.str "hold", .str "look", .str "do", .str "row", .str "one", .str "all", .str "new", .str "give", .str "take", .str "join", .str "other", .str "if", .str "and", .str "or"] : List V) = B1
    have s1 : Same H (upd H b1 (.lst B1)) := Same.new hb1
    have h1 : (upd H b1 (.lst B1)) b1 = some (.lst B1) := upd_same
    generalize upd H b1 (.lst B1) = H1 at s1 h1
    refine ⟨_, rfl, by show 2 ≤ sizeLine; decide, fun b2 hb2 => ?_⟩
    have s2 : Same H1 (upd H1 b2 (.lst [.str "then", .str "gone"])) := Same.new hb2
    have h2 : (upd H1 b2 (.lst [.str "then", .str "gone"])) b2 = some (.lst [.str "then", .str "gone"]) := upd_same
    generalize upd H1 b2 (.lst [.str "then", .str "gone"]) = H2 at s2 h2
    refine ⟨b1, b2, _, _, rfl, rfl, s2 _ _ h1, h2, by rw [← hB1]; show 14 + 2 ≤ sizeLine; decide, fun b3 hb3 => ?_⟩
    have eR : B1 ++ [.str "then", .str "gone"] = RES.map V.str := by rw [← hB1]; rfl
    rw [eR]
    have s3 : Same H2 (upd H2 b3 (.lst (RES.map V.str))) := Same.new hb3
    have h3 : (upd H2 b3 (.lst (RES.map V.str))) b3 = some (.lst (RES.map V.str)) := upd_same
    have n3p : b3 ≠ p := (S0.same (s1.trans s2)).new_p hb3
    generalize upd H2 b3 (.lst (RES.map V.str)) = H3 at s3 h3
    refine ⟨by show 13 ≤ sizeLine; decide, fun b4 hb4 => ?_⟩
    have s4 : Same H3 (upd H3 b4 (.lst (W13.map V.str))) := Same.new hb4
    have h4 : (upd H3 b4 (.lst (W13.map V.str))) b4 = some (.lst (W13.map V.str)) := upd_same
    have s14 := ((s1.trans s2).trans s3).trans s4
    have n4p : b4 ≠ p := (S0.same ((s1.trans s2).trans s3)).new_p hb4
    have eU : upd H3 b4 (.lst (W13.map V.str)) = upd H3 b4 (.lst [V.str "self", .str "at", .str "to", .str "exactly", .str "least", .str "most", .str "from", .str "rule", .str "door", .str "limit", .str "begin", .str "store", .str "loose"]) := rfl
    rw [eU] at s4 h4 s14
    generalize upd H3 b4 (.lst [V.str "self", .str "at", .str "to", .str "exactly", .str "least", .str "most", .str "from", .str "rule", .str "door", .str "limit", .str "begin", .str "store", .str "loose"]) = H4 at s4 h4 s14
    have S4 := S0.same s14
    have h34 := s4 _ _ h3
    have ht4 := s14 _ _ htk
    clear eU eR hB1 h1 h2 h3 s1 s2 s3 s4 hb1 hb2 hb3 hb4
    refine ⟨_, rfl, p, c, 8, rfl, S4, by decide, by decide, fun v1 H5 v10 v11 S5 k5 => ⟨_, _, rfl, rfl, _, rfl, by omega, by omega, ?_⟩⟩
    have kA := Kp.of (p := p) s14
    -- the letters
    refine for_range (lo := 0) (n := (1 + v1).toNat) (fun i σ' H' => ∃ (z : Str) (x6 : Option V), σ' = [some (.ref p), some (.ref tk), some (.str LET), some (.ref b3), some (.ref b4), some (.str z), x6] ∧ z.length = i ∧ (∀ c ∈ z.cps.toList, c ∈ LET.cps.toList) ∧ Src H' p c ∧ Kp p H4 H')
      ⟨Str.empty, _, rfl, rfl, (fun _ h => by cases h), S5, k5⟩ ?_ ?_
    · rintro i σ' H' hi ⟨z, x6, rfl, hz, hzl, S', k'⟩
      refine ⟨_, rfl, _, rfl, _, rfl, p, c, 26, rfl, S', by decide, by decide, fun v2 H6 v20 v21 S6 k6 => ?_⟩
      obtain ⟨j, ej⟩ : ∃ j : Nat, v2 = j := ⟨v2.toNat, by omega⟩
      subst ej
      have hj : j < 26 := by omega
      refine ⟨LET, (j : Int), 97 + j, rfl, rfl, by decide, atI_nat (let_at hj), ?_⟩
      refine ⟨z, _, rfl, rfl, ?_, ?_⟩
      · show z.length + 1 ≤ sizeLine
        exact Nat.le_trans (show z.length + 1 ≤ 100 by omega) (by decide)
      · refine ⟨_, _, rfl, ?_, fun d hd => ?_, S6, k'.trans k6⟩
        · rw [len_add]
          show z.length + 1 = i + 1
          omega
        · rw [PySem.Str.cps_append, Array.toList_append] at hd
          rcases List.mem_append.mp hd with q | q
          · exact hzl d q
          · have : d = 97 + j := by simpa using q
            rw [this]
            exact mem_let.mpr ⟨j, hj, rfl⟩
    rintro σ' H' ⟨z, x6, rfl, hz, hzl, S', k'⟩
    have hw0 : Word z := ⟨by omega, by omega, hzl⟩
    clear hz hzl
    -- a known word
    refine ⟨fun σ2 H2 => ∃ z : Str, σ2 = [some (.ref p), some (.ref tk), some (.str LET), some (.ref b3), some (.ref b4), some (.str z), x6] ∧ Word z ∧ Src H2 p c ∧ Kp p H4 H2, ?_, ?_⟩
    · refine ⟨_, rfl, p, c, 8, rfl, S', by decide, by decide, fun v2 H6 v20 v21 S6 k6 => ⟨rfl, _, rfl, ite2 (fun z1 => ?_) (fun z1 => ?_)⟩⟩
      · refine ⟨_, rfl, _, rfl, p, c, 13, rfl, S6, by decide, by decide, fun v3 H7 v30 v31 S7 k7 => ?_⟩
        have k47 := (k'.trans k6).trans k7
        obtain ⟨y, ey, hy⟩ := w13 v3.toNat (by omega)
        refine ⟨b4, _, v3, _, rfl, rfl, SqL.of (k47 _ _ h4 n4p), at_of (z := v3) (j := v3.toNat) (by omega) ey, ?_⟩
        exact ⟨y, rfl, hy, S7, k47⟩
      · exact ⟨z, rfl, hw0, S6, k'.trans k6⟩
    clear S' k' hw0
    rintro σ2 H6 ⟨z, rfl, hw, S6, k6⟩
    obtain ⟨l, i0, hi0, rfl, hl7, hll⟩ := word_rot hw
    have h36 := k6 _ _ h34 n3p
    have ht6 := k6 _ _ ht4 ntp
    have fl : (ts.map V.str).all flatV = true := flat_str ts
    have fr : (RES.map V.str).all flatV = true := flat_str RES
    refine ⟨26, rfl, by decide, by decide, ?_⟩
    refine for_range (lo := 0) (n := 26) (fun i σ' H' => H' = H6 ∧ ∃ (m : Nat) (x6 : Option V), σ' = [some (.ref p), some (.ref tk), some (.str LET), some (.ref b3), some (.ref b4), some (.str (rot l i0 m)), x6] ∧ m ≤ i ∧ (m < i → rot l i0 m ∉ ts ∧ rot l i0 m ∉ RES) ∧ ∀ j, j < m → rot l i0 j ∈ ts ++ RES)
      ⟨rfl, 0, _, rfl, Nat.le_refl _, (fun h => absurd h (Nat.lt_irrefl _)), fun j h => absurd h (Nat.not_lt_zero _)⟩ ?_ ?_
    · rintro i σ' H' hi ⟨rfl, m, x6, rfl, hm, hf, hb⟩
      have stop : rot l i0 m ∉ ts → rot l i0 m ∉ RES → ∃ (m' : Nat) (x6' : Option V), ([some (.ref p), some (.ref tk), some (.str LET), some (.ref b3), some (.ref b4), some (.str (rot l i0 m)), some (.int (0 + (i : Int)))] : L2.St) = [some (.ref p), some (.ref tk), some (.str LET), some (.ref b3), some (.ref b4), some (.str (rot l i0 m')), x6'] ∧ m' ≤ i + 1 ∧ (m' < i + 1 → rot l i0 m' ∉ ts ∧ rot l i0 m' ∉ RES) ∧ ∀ j, j < m' → rot l i0 j ∈ ts ++ RES :=
        fun a b => ⟨m, _, rfl, by omega, fun _ => ⟨a, b⟩, hb⟩
      have next : rot l i0 m ∈ ts ++ RES → m = i := fun q => by
        by_cases e : m = i
        · exact e
        · obtain ⟨a, b⟩ := hf (by omega)
          rcases List.mem_append.mp q with q | q
          · exact absurd q a
          · exact absurd q b
      have body : ∀ {D : Ends}, rot l i0 m ∈ ts ++ RES → True := fun _ => trivial
      refine ⟨_, rfl, _, rfl, tk, _, rfl, .inl (SqL.of ht6), rfl, fl, _, rfl, ?_⟩
      have hr1 : (rot l i0 m).length ≤ sizeLine := Nat.le_trans (rot_word i0 m hl7 hll).2.1 (by decide)
      have hmod : (i0 + m) % 26 < 26 := Nat.mod_lt _ (by decide)
      have hlast : atI (rot l i0 m).cps.toList (-1) = some (97 + (i0 + m) % 26) := atI_last l _
      have hsucc : Tx l ++ (⟨#[97 + ((i0 + m) % 26 + 1) % 26]⟩ : Str) = rot l i0 (m + 1) := by
        show Tx l ++ Tx [97 + ((i0 + m) % 26 + 1) % 26] = _
        rw [tx_cat]
        unfold rot
        rw [show ((i0 + m) % 26 + 1) % 26 = (i0 + (m + 1)) % 26 by omega]
      have hmod2 : ((i0 + m) % 26 + 1) % 26 < 26 := Nat.mod_lt _ (by decide)
      have ecut : cutS (rot l i0 m) none (some (-1)) = Tx l := rot_cut l _
      have eix : ((((i0 + m) % 26 : Nat) : Int) + 1) % 26 = ((((i0 + m) % 26 + 1) % 26 : Nat) : Int) := by omega
      have hl8 : (Tx l).length = l.length := by show l.toArray.size = _; simp
      rw [in_str]
      refine ite2 (fun z1 => ?_) (fun z1 => ?_)
      · have hin := of_decide_eq_true z1
        have hmem : rot l i0 m ∈ ts ++ RES := List.mem_append.mpr (.inl hin)
        refine ⟨_, rfl, _, rfl, _, rfl, rot l i0 m, rfl, hr1, ?_⟩

        refine ⟨_, rfl, _, rfl, ⟨_, rfl⟩, _, rfl, _, rfl, rot l i0 m, -1, _, rfl, rfl, hr1, hlast, LET, _, _, [], rfl, rfl, let_index _ hmod, _, _, rfl, rfl, _, _, rfl, rfl, (by show (0 : Int) < 26; decide), LET, _, 97 + ((i0 + m) % 26 + 1) % 26, rfl, rfl, by decide, (by rw [eix]; exact atI_nat (let_at hmod2)), ?_⟩
        refine ⟨_, _, rfl, rfl, ?_, ?_⟩
        · rw [ecut, hl8]
          exact Nat.le_trans (show l.length + 1 ≤ 100 by omega) (by decide)
        · rw [ecut, hsucc]
          exact ⟨rfl, m + 1, _, rfl, by omega, fun h => by have := next hmem; omega, fun j hj => by
            rcases Nat.lt_succ_iff_lt_or_eq.mp hj with q | q
            · exact hb j q
            · rw [q]; exact hmem⟩
      · have hno : rot l i0 m ∉ ts := fun q => z1 (decide_eq_true q)
        refine ⟨_, rfl, _, rfl, b3, _, rfl, .inl (SqL.of h36), rfl, fr, _, rfl, ?_⟩
        rw [in_str]
        refine ite2 (fun z2 => ?_) (fun z2 => ?_)
        · have hin := of_decide_eq_true z2
          have hmem : rot l i0 m ∈ ts ++ RES := List.mem_append.mpr (.inr hin)
          refine ⟨_, rfl, _, rfl, _, rfl, rot l i0 m, rfl, hr1, ?_⟩
          refine ⟨_, rfl, _, rfl, ⟨_, rfl⟩, _, rfl, _, rfl, rot l i0 m, -1, _, rfl, rfl, hr1, hlast, LET, _, _, [], rfl, rfl, let_index _ hmod, _, _, rfl, rfl, _, _, rfl, rfl, (by show (0 : Int) < 26; decide), LET, _, 97 + ((i0 + m) % 26 + 1) % 26, rfl, rfl, by decide, (by rw [eix]; exact atI_nat (let_at hmod2)), ?_⟩
          refine ⟨_, _, rfl, rfl, ?_, ?_⟩
          · rw [ecut, hl8]
            exact Nat.le_trans (show l.length + 1 ≤ 100 by omega) (by decide)
          · rw [ecut, hsucc]
            exact ⟨rfl, m + 1, _, rfl, by omega, fun h => by have := next hmem; omega, fun j hj => by
              rcases Nat.lt_succ_iff_lt_or_eq.mp hj with q | q
              · exact hb j q
              · rw [q]; exact hmem⟩
        · have hno2 : rot l i0 m ∉ RES := fun q => z2 (decide_eq_true q)
          exact ⟨rfl, stop hno hno2⟩
    · rintro σ' H' ⟨rfl, m, x6, rfl, hm, hf, hb⟩
      have hm26 : m < 26 := by
        by_cases e : m = 26
        · subst e
          exact (rot_free (bs := ts ++ RES) (by rw [List.length_append]; show ts.length + 16 ≤ 25; omega) hb).elim
        · omega
      obtain ⟨a, b⟩ := hf hm26
      refine ⟨_, rfl, ?_⟩
      exact k _ _ ⟨rot_word i0 m hl7 hll, b⟩ a S6 (kA.trans k6)
theorem ok_kinds {f fK : Addr} {fd fdK : FuncData} (F : Fun K "_law_kinds" "_law_kinds" s_l_kinds f fd) (g : Bi mg) (FK : Def P w K mg base CX0 3 "_law_kind" ["_law_source_here", "_law_taken"] spKind fK fdK) : FnOk P w K mg base CX0 4 f fd ["_law_source_here", "_law_many"] spKinds := by
  obtain ⟨GK, mK, _, bK⟩ := id FK
  refine F.ok sc_l_kinds (fun vs H Q E h => ?_) (fun cdv A outer s H vs Q E hr h => ?_)
  · obtain ⟨_, _, _, rfl, _⟩ := h
    rfl
  · obtain ⟨p, c, n, rfl, S0, hn, k⟩ := h
    have hrK : Room 3 _ := hr.mono (by decide)
    refine ⟨_, (pss_cons (ps_set (i := 2) sc_l_kinds.nd rfl (Or.inl rfl) (pe_lst pa_nil))
      (pss_cons (ps_for PassesOwn.never rfl (pi_range1 rfl g.range (pa_cons (pv 1) pa_nil)) (pg_name (i := 3) sc_l_kinds.nd rfl (Or.inl rfl)) (pss_one (ps_expr (pe_bm PySem.F.plainAttrs_list PySem.F.slot_list_append PySem.F.type_list_append mt_append (pv 2) (pa_cons (pe_call GK hrK rfl mK FK.kp bK .nil pass0 (pa_cons (pv 0) (pa_cons (pv 2) pa_nil))) pa_nil)))))
      (pss_one (ps_ret (pv 2))))), ?_⟩
    refine ⟨Nat.zero_le _, fun q hq => ?_⟩
    have s1 : Same H (upd H q (.lst [])) := Same.new hq
    have h1 : (upd H q (.lst [])) q = some (.lst []) := upd_same
    have nqp : q ≠ p := S0.new_p hq
    have nqc : q ≠ c := S0.new_c hq
    generalize upd H q (.lst []) = H1 at s1 h1
    refine ⟨_, rfl, _, rfl, by omega, by omega, ?_⟩
    refine for_range (lo := 0) (n := ((n : Int)).toNat) (fun i σ' H' => ∃ (ks : List Str) (x3 : Option V), σ' = [some (.ref p), some (.int n), some (.ref q), x3] ∧ H' q = some (.lst (ks.map V.str)) ∧ ks.length = i ∧ ks.Nodup ∧ (∀ z ∈ ks, Kind z) ∧ Src H' p c ∧ Kp p H H')
      ⟨[], _, rfl, h1, rfl, List.nodup_nil, (fun _ h => nomatch h), S0.same s1, Kp.of s1⟩ ?_ ?_
    · rintro i σ' H' hi ⟨ks, x3, rfl, hq', hl, hnd, hkd, S', k'⟩
      refine ⟨_, rfl, .inl ⟨rfl, _, SqL.of hq'⟩, _, rfl, _, rfl, p, c, q, ks, rfl, S', hq', by omega, nqp, fun z H2 hz hzn S2 k2 => ?_⟩
      have hq2 := k2 _ _ hq' nqp
      refine ⟨q, _, _, rfl, rfl, hq2, ?_, ?_⟩
      · rw [List.length_map]
        exact Nat.lt_of_le_of_lt (show ks.length ≤ 100 by omega) (by decide)
      have kq : ∀ b o, H2 b = some o → b ≠ q → (upd H2 q (.lst (ks.map V.str ++ [.str z]))) b = some o := fun b o e n => by rw [upd_ne n]; exact e
      refine ⟨ks ++ [z], _, rfl, ?_, ?_, ?_, fun y hy => ?_, S2.keep (fun b o hb e => kq b o e (by rcases hb with rfl | rfl; exact nqp.symm; exact nqc.symm)), fun b o e n => kq _ _ (k2 _ _ (k' b o e n) n) (ne_of_none e hq)⟩
      · rw [upd_same, List.map_append]
        rfl
      · rw [List.length_append, hl]
        rfl
      · exact List.nodup_append.mpr ⟨hnd, List.pairwise_singleton _ _, fun a ha b hb e => by rw [List.mem_singleton.mp hb] at e; exact hzn (e ▸ ha)⟩
      · rcases List.mem_append.mp hy with e | e
        · exact hkd y e
        · rw [List.mem_singleton.mp e]
          exact hz
    · rintro σ' H' ⟨ks, x3, rfl, hq', hl, hnd, hkd, S', k'⟩
      exact ⟨_, rfl, k q H' ks hq hq' (by omega) hnd hkd S' k'⟩
end
end Cs

set_option Elab.async false
set_option linter.all false
set_option maxRecDepth 100000
set_option maxHeartbeats 4000000
set_option pp.maxSteps 600
/-! The five classes of rules, their objects, and how they are made. -/
namespace Cs
open PySem L2
inductive RCl where
  | al | am | bt | ex
/-- the classes' places -/
structure RAd where
  R : Addr
  al : Addr
  am : Addr
  bt : Addr
  ex : Addr
def RAd.at (a : RAd) : RCl → Addr
  | .al => a.al
  | .am => a.am
  | .bt => a.bt
  | .ex => a.ex
/-- which of the four a rule is, too -/
def isA : RCl → RCl → Bool
  | .al, .al => true
  | .al, _ => false
  | .am, .am => true
  | .am, _ => false
  | .bt, .ex => false
  | .bt, _ => true
  | .ex, _ => true
/-- what isinstance asks of an object of the class -/
structure RI (K : PySem.W.Frag) (C : Addr) : Prop where
  cl : Cls K C
  ha : PySem.W.findIn K (.ref C) "__class__" = some (some (.builtin "object.__class__"))
  hn : PySem.W.specialIn K (.builtin "object.__class__") "__get__" = some (some (.builtin "getset_descriptor.__get__"))
  htk : PySem.W.takesIn K (.builtin "object.__class__") = some true
  hm : PySem.W.mroIn K C (.type "object") = some true
theorem RI.ty {K : PySem.W.Frag} {C : Addr} {H : Hp} {p dx : Addr} {fs : List (Str × V)} (c : RI K C) (h : H p = some (.ins C dx fs)) : TyX K H (.ref p) (.ref C) := .base (.ins h c.cl c.ha c.hn c.htk c.hm)
theorem kitR_self {K : PySem.W.Frag} {C : Addr} : PySem.W.kitOne K (.ref C) (.ref C) = some true := by
  unfold PySem.W.kitOne
  rw [if_pos (beq_self_eq_true _)]
theorem kitR_by {K : PySem.W.Frag} {C : Addr} {t : Value} {b : Bool} (h1 : PySem.W.isClsIn K C = true) (h2 : PySem.W.typeIn K (.ref C) = some (.type "type")) (h : PySem.W.subIn K t (.ref C) = some b) (hn : (t == Value.ref C) = false) : PySem.W.kitOne K t (.ref C) = some b := by
  have h1' : (PySem.W.clsIn K C).isSome = true := h1
  unfold PySem.W.kitOne PySem.W.kitCls
  simp [hn, h1', h2, h]
/-- .. where the answer is yes -/
theorem kitR_yes {K : PySem.W.Frag} {C : Addr} {t : Value} (h1 : PySem.W.isClsIn K C = true) (h2 : PySem.W.typeIn K (.ref C) = some (.type "type")) (h : PySem.W.subIn K t (.ref C) = some true) : PySem.W.kitOne K t (.ref C) = some true := by
  cases e : (t == Value.ref C) with
  | false => exact kitR_by h1 h2 h e
  | true =>
    unfold PySem.W.kitOne
    rw [if_pos e]
theorem kitR_no {K : PySem.W.Frag} {C D : Addr} (h1 : PySem.W.isClsIn K C = true) (h2 : PySem.W.typeIn K (.ref C) = some (.type "type")) (h : PySem.W.subIn K (.ref D) (.ref C) = some false) (hn : D ≠ C) : PySem.W.kitOne K (.ref D) (.ref C) = some false :=
  kitR_by h1 h2 h (beq_eq_false_iff_ne.mpr fun e => hn (by cases e; rfl))
structure RWo (K : PySem.W.Frag) (mg : Str → Option Value) (a : RAd) : Prop where
  mR : mg "Rule" = some (.ref a.R)
  mal : mg "AtLeast" = some (.ref a.al)
  mam : mg "AtMost" = some (.ref a.am)
  mbt : mg "Between" = some (.ref a.bt)
  mex : mg "Exactly" = some (.ref a.ex)
  rc : ∀ c, RC K (a.at c)
  ri : ∀ c, RI K (a.at c)
  kitR : ∀ c, PySem.W.kitOne K (.ref (a.at c)) (.ref a.R) = some true
  kit : ∀ c d, PySem.W.kitOne K (.ref (a.at c)) (.ref (a.at d)) = some (isA c d)
/-- how the four are made -/
structure RMk (P : Program) (w : World) (K : PySem.W.Frag) (mg : Str → Option Value) (base : Heap) (a : RAd) : Prop where
  wo : RWo K mg a
  al : ∃ f, Mk K a.al f ∧ FnR P w K mg base CX0 7 f (spI 880 a.al okAM fsAL1)
  am : ∃ f, Mk K a.am f ∧ FnR P w K mg base CX0 7 f (spI 880 a.am okAM fsAM)
  bt : ∃ f, Mk K a.bt f ∧ FnR P w K mg base CX0 7 f (spI 880 a.bt okBt fsAL2)
  ex : ∃ f, Mk K a.ex f ∧ FnR P w K mg base CX0 7 f (spI 880 a.ex okAM fsEx)
theorem FnR.less {P : Program} {w : World} {K : PySem.W.Frag} {mg : Str → Option Value} {base : Heap} {k bd bd' : Nat} {f C : Addr} {ok : List Int → Prop} {F : List Int → List (Str × V) → Addr → List (Str × V)} (G : FnR P w K mg base CX0 k f (spI bd C ok F)) (h : bd' ≤ bd) : FnR P w K mg base CX0 k f (spI bd' C ok F) := by
  refine G.imp fun vs H Q E q => ?_
  obtain ⟨x, dx, ns, fs, ks, rfl, ho, hx, hfs, hK, k⟩ := q
  exact ⟨x, dx, ns, fs, ks, rfl, ho, hx, Nat.lt_of_lt_of_le hfs h, hK, k⟩
/-- an integer or None -/
def optV : Option Int → V
  | none => .non
  | some n => .int n
/-- no field has a method's name -/
def NoM (fs : List (Str × V)) : Prop := ∀ g ∈ (["total_of", "holds", "lacks", "sum_text"] : List Str), fs.lookup g = none
theorem nom {fs : List (Str × V)} (h1 : fs.lookup ("total_of" : Str) = none) (h2 : fs.lookup ("holds" : Str) = none) (h3 : fs.lookup ("lacks" : Str) = none) (h4 : fs.lookup ("sum_text" : Str) = none) : NoM fs := by
  intro g hg
  simp only [List.mem_cons, List.not_mem_nil, or_false] at hg
  rcases hg with rfl | rfl | rfl | rfl <;> assumption
/-- a rule -/
def RulAt (a : RAd) (H : Hp) (p : Addr) (c : RCl) (l : Int) (m : Option Int) (ks : List Str) : Prop :=
  ∃ dx kt fs, H p = some (.ins (a.at c) dx fs) ∧ H kt = some (.tup (ks.map V.str)) ∧ fs.lookup ("kinds" : Str) = some (.ref kt) ∧ fs.lookup ("least" : Str) = some (.int l) ∧ fs.lookup ("most" : Str) = some (optV m) ∧ NoM fs
theorem RulAt.same {a : RAd} {H H' : Hp} {p : Addr} {c : RCl} {l : Int} {m : Option Int} {ks : List Str} (s : Same H H') (h : RulAt a H p c l m ks) : RulAt a H' p c l m ks := by
  obtain ⟨dx, kt, fs, h1, h2, h3⟩ := h
  exact ⟨dx, kt, fs, s _ _ h1, s _ _ h2, h3⟩
theorem RulAt.kp {a : RAd} {H H' : Hp} {p q d : Addr} {c : RCl} {l : Int} {m : Option Int} {ks : List Str} (S : Src H q d) (k : Kp q H H') (h : RulAt a H p c l m ks) : RulAt a H' p c l m ks := by
  obtain ⟨dx, kt, fs, h1, h2, h3⟩ := h
  obtain ⟨o, ho⟩ := S.at_p
  exact ⟨dx, kt, fs, k _ _ h1 (ne_of h1 ho (by intro z; cases z)), k _ _ h2 (ne_of h2 ho (by intro z; cases z)), h3⟩
/-- a new object, made from its integers and kinds -/
def NewR (C : Addr) (F : Addr → List (Str × V)) (ks : List Str) (H : Hp) (Q : Addr → Hp → Prop) : Prop :=
  ∀ (x dx kt : Addr) (H' : Hp), H x = none → H kt = none → Same H H' → H' x = some (.ins C dx (F kt)) → H' kt = some (.tup (ks.map V.str)) → Q x H'
theorem mk_rule {bd : Nat} {C : Addr} {ok : List Int → Prop} {F : List Int → List (Str × V) → Addr → List (Str × V)} {ns : List Int} {ks : List Str} {H : Hp} {Q : Addr → Hp → Prop} {E : XK} (hb : 0 < bd) (ho : ok ns) (hK : Kinds ks) (k : NewR C (F ns []) ks H Q) :
    ∀ x dx, H x = none → H dx = none → dx ≠ x → spI bd C ok F (V.ref x :: (ns.map V.int ++ ks.map V.str)) (upd (upd H dx (.own x)) x (.ins C dx [])) (fun v H2 => v = .non ∧ Q x H2) E := by
  intro x dx hx hdx ne
  refine ⟨x, dx, ns, [], ks, rfl, ho, upd_same, hb, hK, fun kt H' h1 h2 h3 h4 => ⟨rfl, ?_⟩⟩
  have nkx : kt ≠ x := fun e => by rw [e, upd_same] at h1; cases h1
  have hkt : H kt = none := by
    rw [upd_ne nkx] at h1
    have nkd : kt ≠ dx := fun e => by rw [e, upd_same] at h1; cases h1
    rw [upd_ne nkd] at h1
    exact h1
  refine k x dx kt H' hx hkt (fun b o e => h4 b o ?_ (ne_of_none e hx)) h3 h2
  rw [upd_ne (ne_of_none e hx), upd_ne (ne_of_none e hdx)]
  exact e
section
variable {a : RAd} {l m n : Int} {ks : List Str} {H : Hp} {Q : Addr → Hp → Prop} {E : XK}
theorem mk_al (hl : Bnd9 l) (hK : Kinds ks) (k : ∀ x H', H x = none → Same H H' → RulAt a H' x .al l none ks → Q x H') :
    ∀ x dx, H x = none → H dx = none → dx ≠ x → spI 880 a.al okAM fsAL1 (V.ref x :: ([l].map V.int ++ ks.map V.str)) (upd (upd H dx (.own x)) x (.ins a.al dx [])) (fun v H2 => v = .non ∧ Q x H2) E :=
  mk_rule (by decide) ⟨l, rfl, hl⟩ hK fun x dx kt H' hx _ s h1 h2 => k x H' hx s ⟨dx, kt, _, h1, h2, rfl, rfl, rfl, nom rfl rfl rfl rfl⟩
theorem mk_am (hm : Bnd9 m) (hK : Kinds ks) (k : ∀ x H', H x = none → Same H H' → RulAt a H' x .am 0 (some m) ks → Q x H') :
    ∀ x dx, H x = none → H dx = none → dx ≠ x → spI 880 a.am okAM fsAM (V.ref x :: ([m].map V.int ++ ks.map V.str)) (upd (upd H dx (.own x)) x (.ins a.am dx [])) (fun v H2 => v = .non ∧ Q x H2) E :=
  mk_rule (by decide) ⟨m, rfl, hm⟩ hK fun x dx kt H' hx _ s h1 h2 => k x H' hx s ⟨dx, kt, _, h1, h2, rfl, rfl, rfl, nom rfl rfl rfl rfl⟩
theorem mk_bt (hl : Bnd9 l) (hm : Bnd9 m) (hlm : l ≤ m) (hK : Kinds ks) (k : ∀ x H', H x = none → Same H H' → RulAt a H' x .bt l (some m) ks → Q x H') :
    ∀ x dx, H x = none → H dx = none → dx ≠ x → spI 880 a.bt okBt fsAL2 (V.ref x :: ([l, m].map V.int ++ ks.map V.str)) (upd (upd H dx (.own x)) x (.ins a.bt dx [])) (fun v H2 => v = .non ∧ Q x H2) E :=
  mk_rule (by decide) ⟨l, m, rfl, hl, hm, hlm⟩ hK fun x dx kt H' hx _ s h1 h2 => k x H' hx s ⟨dx, kt, _, h1, h2, rfl, rfl, rfl, nom rfl rfl rfl rfl⟩
theorem mk_ex (hn : Bnd9 n) (hK : Kinds ks) (k : ∀ x H', H x = none → Same H H' → RulAt a H' x .ex n (some n) ks → Q x H') :
    ∀ x dx, H x = none → H dx = none → dx ≠ x → spI 880 a.ex okAM fsEx (V.ref x :: ([n].map V.int ++ ks.map V.str)) (upd (upd H dx (.own x)) x (.ins a.ex dx [])) (fun v H2 => v = .non ∧ Q x H2) E :=
  mk_rule (by decide) ⟨n, rfl, hn⟩ hK fun x dx kt H' hx _ s h1 h2 => k x H' hx s ⟨dx, kt, _, h1, h2, rfl, rfl, rfl, nom rfl rfl rfl rfl⟩
end
theorem kinds_cases {ks : List Str} (h : Kinds ks) : (∃ x, ks = [x]) ∨ (∃ x y, ks = [x, y]) ∨ (∃ x y z, ks = [x, y, z]) := by
  have h1 := h.lo
  have h2 := h.hi
  match ks, h1, h2 with
  | [x], _, _ => exact .inl ⟨x, rfl⟩
  | [x, y], _, _ => exact .inr (.inl ⟨x, y, rfl⟩)
  | [x, y, z], _, _ => exact .inr (.inr ⟨x, y, z, rfl⟩)
/-! ### a tuple of words as data -/
def pts (zs : List Str) : PyData := .tuple (zs.map .str)
theorem wordR_ok {z : Str} (h : Word z) : PyData.strOk z = true := by
  unfold PyData.strOk
  rw [← Array.all_toList, List.all_eq_true]
  intro c hc
  have h1 := h.2.2 c hc
  have h2 : ∀ c ∈ LET.cps.toList, c < 0x110000 := by decide +kernel
  exact decide_eq_true (h2 c h1)
theorem strs_can : ∀ {zs : List Str}, (∀ z ∈ zs, Word z) → PyData.canLayAll0 (zs.map .str) = true
  | [], _ => rfl
  | z :: zs, h => by
    rw [List.map_cons, PyData.canLayAll0, strs_can fun y m => h y (List.mem_cons_of_mem _ m), PyData.canLay0, wordR_ok (h z List.mem_cons_self)]
    rfl
theorem strs_depth : ∀ zs : List Str, PyData.depthAll (zs.map .str) = 0
  | [] => rfl
  | z :: zs => by
    rw [List.map_cons, PyData.depthAll, strs_depth zs, PyData.depth]
    rfl
theorem pts_shaped {zs : List Str} (h : ∀ z ∈ zs, Word z) : SeqAt.shaped (pts zs) = true := by
  unfold SeqAt.shaped pts
  rw [Bool.and_eq_true]
  refine ⟨by rw [PyData.canLay0]; exact strs_can h, decide_eq_true ?_⟩
  rw [PyData.depth, strs_depth]
  decide
theorem pts_refl {zs : List Str} (h : ∀ z ∈ zs, Word z) : PyData.eqv (pts zs) (pts zs) = true := SeqAt.eqv_refl _ (SeqAt.canLay_of_shaped (pts_shaped h))
theorem strs_dp {K : PySem.W.Frag} {H : Hp} : ∀ zs : List Str, DpAll K H (zs.map V.str) (zs.map .str)
  | [] => .nil
  | z :: zs => .cons (.str z) (strs_dp zs)
def spLawR (K : PySem.W.Frag) : Sp := fun vs H Q _ => ∃ (a : Addr) (ns : List Int), vs = [.ref a] ∧ SqL K H a (ns.map V.int) ∧ ns.length ≤ 63 ∧ ∀ H', Q (.bl true) H'
end Cs

set_option Elab.async false
set_option linter.all false
set_option maxRecDepth 100000
set_option maxHeartbeats 4000000
set_option pp.maxSteps 600
/-! == and != of two rules, whichever of the four classes they are of; str(rule). -/
namespace Cs
open PySem PySem.Spec PyProof.Rows L2
section
variable {prog : Program} {w : World} {A : Around} {E : Value → Shared → Prop} {s : Shared} {K : PySem.W.Frag} {x y C D f : Addr} {ox oy : Obj} {od oe : Option Obj}
/-- the right side's class is below the left one's: it is asked first -/
theorem cmp_right {op : CmpOp} {Q : Value → Shared → Prop} (hu : A.units < cLine) (X : K.In s.heap) (I : PySem.W.InstAt s.heap x ox C od) (J : PySem.W.InstAt s.heap y oy D oe) (hne : D ≠ C) (hsub : PySem.W.subIn K (.ref D) (.ref C) = some true)
    (one : wpAny (model prog w) A (tryCompare (.ref y) (cmpInfo op).2.2 (.ref x)) (fun r s' => ∃ v, r = some v ∧ Q v s') E s) : wpAny (model prog w) A (richCompare op (.ref x) (.ref y)) Q E s := by
  unfold richCompare
  simp only [oneThing_ref]
  refine wpAny_holding (wpAny_bind (wpAny_cRoomFor hu ?_))
  refine wpAny_bind (I.type.here (wpAny_bind (J.type.here ?_)))
  rw [if_pos (show ((Value.ref C) != (Value.ref D)) = true from bne_iff_ne.mpr fun e => hne (by cases e; rfl))]
  refine wpAny_bind ((PySem.W.looks_subIn X hsub).here ?_)
  simp only [if_true]
  refine wpAny_bind (wpAny_mono one (fun r s' z => ?_) fun _ _ e => e)
  obtain ⟨v, rfl, hq⟩ := z
  repeat (first | exact wpAny_pure hq | wp_step)
theorem eq_right {Q : Value → Shared → Prop} (hu : A.units < cLine) (X : K.In s.heap) (I : PySem.W.InstAt s.heap x ox C od) (J : PySem.W.InstAt s.heap y oy D oe) (hne : D ≠ C) (hsub : PySem.W.subIn K (.ref D) (.ref C) = some true)
    (hs : PySem.W.findIn K (.ref D) "__eq__" = some (some (.ref f))) (hf : PySem.W.isFn K (.ref f) = true)
    (h : wpAny (model prog w) A (call (.ref f) [.ref y, .ref x]) (PySem.W.CmpBack Q) E s) : wpAny (model prog w) A (richCompare .Eq (.ref x) (.ref y)) Q E s := by
  refine cmp_right hu X I J hne hsub ?_
  unfold tryCompare
  refine wpAny_bind (PySem.W.ifBound_K X J hs hf (wpAny_mono h (fun v s' hv => ?_) fun _ _ e => e))
  cases v <;> first | exact hv.elim | exact wpAny_pure ⟨_, rfl, hv⟩
theorem ne_right {Q : Value → Shared → Prop} (hu : A.units + 1 < cLine) (X : K.In s.heap) (I : PySem.W.InstAt s.heap x ox C od) (J : PySem.W.InstAt s.heap y oy D oe) (hne : D ≠ C) (hsub : PySem.W.subIn K (.ref D) (.ref C) = some true)
    (hm : PySem.W.mroIn K D (.type "object") = some true) (hn : PySem.W.findIn K (.ref D) "__ne__" = some (some (.builtin "object.__ne__"))) (hs : PySem.W.findIn K (.ref D) "__eq__" = some (some (.ref f))) (hf : PySem.W.isFn K (.ref f) = true)
    (h : wpAny (model prog w) A.in1 (call (.ref f) [.ref y, .ref x]) (fun v s' => ∃ k, v = .bool k ∧ Q (.bool (!k)) s') E s) : wpAny (model prog w) A (richCompare .NotEq (.ref x) (.ref y)) Q E s := by
  refine cmp_right (Nat.lt_of_succ_lt hu) X I J hne hsub ?_
  unfold tryCompare
  refine wpAny_bind (ifBound_objNe X J hn (call_objNe hu X J hm hs hf (wpAny_mono h (fun v s' z => ?_) fun _ _ e => e)))
  obtain ⟨k, rfl, q⟩ := z
  exact ⟨k, rfl, wpAny_pure ⟨_, rfl, q⟩⟩
end
/-- what == and != ask of the four classes -/
structure EqW (K : PySem.W.Frag) (a : RAd) (f : Addr) : Prop where
  c : ∀ c, EqC K (a.at c) f
  sub : ∀ c d, a.at d = a.at c ∨ (a.at d ≠ a.at c ∧ PySem.W.subIn K (.ref (a.at d)) (.ref (a.at c)) = some (isA d c))
  ty : ∀ c ty, ty ∈ ["int", "NoneType", "str", "list", "tuple"] → PySem.W.subIn K (.type ty) (.ref (a.at c)) = some false
theorem first_no {K : PySem.W.Frag} {C D : Addr} (h : PySem.W.subIn K (.ref D) (.ref C) = some false) : PySem.W.notFirst K C (.ref D) = true := by
  unfold PySem.W.notFirst
  rw [h]
  simp
section
variable {X : Cx} {CX : CXT} {k : Nat} {f : Addr} {a : RAd} {fd : FuncData} {ps : List Str} {sp : Sp} {E : XK}
def rEqR (a : RAd) (sp : Sp) (E : XK) : R2 := fun x y H Q => ∃ p q c d dp dq fp fq, x = .ref p ∧ y = .ref q ∧ H p = some (.ins (a.at c) dp fp) ∧ H q = some (.ins (a.at d) dq fq) ∧ sp [.ref p, .ref q] H Q E ∧ sp [.ref q, .ref p] H Q E
def rNeR (a : RAd) (sp : Sp) (E : XK) : R2 := fun x y H Q => ∃ p q c d dp dq fp fq, x = .ref p ∧ y = .ref q ∧ H p = some (.ins (a.at c) dp fp) ∧ H q = some (.ins (a.at d) dq fq) ∧ sp [.ref p, .ref q] H (fun v H' => ∃ b, v = .bl b ∧ Q (.bl (!b)) H') E ∧ sp [.ref q, .ref p] H (fun v H' => ∃ b, v = .bl b ∧ Q (.bl (!b)) H') E
theorem op_eqR (c : EqW X.K a f) (F : FnOk X.prog X.w X.K X.mg X.base CX k f fd ps sp) (hr : Room k X.A) (hb : Binds X.K fd ps []) (hx : Passes CX X E) : OpR X (compareOp .Eq) (rEqR a sp E) := by
  intro pins s σ H x y v u Q I rx ry h
  obtain ⟨p, q, c1, c2, dp, dq, fp, fq, rfl, rfl, hp, hq, k1, k2⟩ := h
  cases rx
  cases ry
  obtain ⟨ox, od, J, _⟩ := ins_inst I hp
  obtain ⟨oy, oe, J2, _⟩ := ins_inst I hq
  obtain ⟨m, Fr⟩ := I.fr
  show wpAny _ _ (richCompare .Eq (.ref p) (.ref q)) _ _ _
  have left : PySem.W.notFirst X.K (a.at c1) (.ref (a.at c2)) = true → wpAny (model X.prog X.w) X.A (richCompare .Eq (.ref p) (.ref q)) (EP X pins σ Q) X.xe s := fun z => by
    refine PySem.W.cmp_K (op := .Eq) (tb := .ref (a.at c2)) hr.units0 Fr I.ok.mod.kin J J2.type z (c.c c1).at_ (c.c c1).fn ?_
    exact wpAny_mono (run_fn (us := [.ref p, .ref q]) (vs := [.ref p, .ref q]) (dvs := []) F hr hb .nil hx I (.cons rfl (.cons rfl .nil)) k1) (fun v s' z => back_of z) fun _ _ z => z
  rcases c.sub c1 c2 with e | ⟨ne, e⟩
  · exact left (by rw [e]; exact first_self)
  · cases hA : isA c2 c1 with
    | false =>
      rw [hA] at e
      exact left (first_no e)
    | true =>
      rw [hA] at e
      refine eq_right hr.units0 I.kIn J J2 ne e (c.c c2).at_ (c.c c2).fn ?_
      exact wpAny_mono (run_fn (us := [.ref q, .ref p]) (vs := [.ref q, .ref p]) (dvs := []) F hr hb .nil hx I (.cons rfl (.cons rfl .nil)) k2) (fun v s' z => back_of z) fun _ _ z => z
theorem op_neR (c : EqW X.K a f) (F : FnOk X.prog X.w X.K X.mg X.base CX k f fd ps sp) (hr : Room (k + 1) X.A) (hb : Binds X.K fd ps []) (hx : Passes CX X E) : OpR X (compareOp .NotEq) (rNeR a sp E) := by
  intro pins s σ H x y v u Q I rx ry h
  obtain ⟨p, q, c1, c2, dp, dq, fp, fq, rfl, rfl, hp, hq, k1, k2⟩ := h
  cases rx
  cases ry
  obtain ⟨ox, od, J, _⟩ := ins_inst I hp
  obtain ⟨oy, oe, J2, _⟩ := ins_inst I hq
  have left : PySem.W.notFirst X.K (a.at c1) (.ref (a.at c2)) = true → wpAny (model X.prog X.w) X.A (compareOp .NotEq (.ref p) (.ref q)) (EP X pins σ Q) X.xe s := fun z => by
    refine ne_own (hu_of hr) I.kIn J J2.type z (c.c c1).hm (c.c c1).ne (c.c c1).at_ (c.c c1).fn ?_
    refine wpAny_mono (run_fn1 (us := [.ref p, .ref q]) (vs := [.ref p, .ref q]) F hr hb hx I (.cons rfl (.cons rfl .nil)) k1) (fun v s' z => ?_) fun _ _ z => z
    obtain ⟨v', H', I', rv, b, rfl, qq⟩ := z
    cases rv
    exact ⟨b, rfl, .bl (!b), H', I', rfl, qq⟩
  rcases c.sub c1 c2 with e | ⟨ne, e⟩
  · exact left (by rw [e]; exact first_self)
  · cases hA : isA c2 c1 with
    | false =>
      rw [hA] at e
      exact left (first_no e)
    | true =>
      rw [hA] at e
      refine ne_right (hu_of hr) I.kIn J J2 ne e (c.c c2).hm (c.c c2).ne (c.c c2).at_ (c.c c2).fn ?_
      refine wpAny_mono (run_fn1 (us := [.ref q, .ref p]) (vs := [.ref q, .ref p]) F hr hb hx I (.cons rfl (.cons rfl .nil)) k2) (fun v s' z => ?_) fun _ _ z => z
      obtain ⟨v', H', I', rv, b, rfl, qq⟩ := z
      cases rv
      exact ⟨b, rfl, .bl (!b), H', I', rfl, qq⟩
/-- == with something that is no object of an own class -/
def rEqRY (K : PySem.W.Frag) (a : RAd) (sp : Sp) (E : XK) : R2 := fun x y H Q => ∃ p c dp fp ty, x = .ref p ∧ H p = some (.ins (a.at c) dp fp) ∧ TyX K H y (.type ty) ∧ ty ∈ ["int", "NoneType", "str", "list", "tuple"] ∧ sp [.ref p, y] H Q E
theorem op_eqRY (c : EqW X.K a f) (F : FnOk X.prog X.w X.K X.mg X.base CX k f fd ps sp) (hr : Room k X.A) (hb : Binds X.K fd ps []) (hx : Passes CX X E) : OpR X (compareOp .Eq) (rEqRY X.K a sp E) := by
  intro pins s σ H x y v u Q I rx ry h
  obtain ⟨p, c1, dp, fp, ty, ex, hp, hy, ht, k1⟩ := h
  exact op_eqY (c.c c1) F hr hb hx pins s σ H x y v u Q I rx ry ⟨p, dp, fp, ty, ex, hp, hy, c.ty c1 ty ht, k1⟩
/-- str(rule) -/
structure StrW (P : Program) (w : World) (K : PySem.W.Frag) (mg : Str → Option Value) (base : Heap) (CX : CXT) (k : Nat) (a : RAd) (sp : RCl → Sp) : Prop where
  ex : ∀ c, ∃ f fd, PySem.W.findIn K (.ref (a.at c)) "__str__" = some (some (.ref f)) ∧ PySem.W.isFn K (.ref f) = true ∧ FnOk P w K mg base CX k f fd ["self"] (sp c) ∧ Binds K fd ["self"] []
def rStrR (a : RAd) (sp : RCl → Sp) (E : XK) : List V → Hp → VK → Prop := fun xs H Q => ∃ p c dp fp, xs = [.ref p] ∧ H p = some (.ins (a.at c) dp fp) ∧ sp c [.ref p] H (fun v H2 => ∃ z : Str, v = .str z ∧ Q (.str z) H2) E
theorem call_strR {sp : RCl → Sp} (c : StrW X.prog X.w X.K X.mg X.base CX k a sp) (hr : Room (k + 2) X.A) (hx : Passes CX X E) : CallR X (.type "str") (rStrR a sp E) := by
  intro pins s σ H xs us Q I r h
  obtain ⟨p, c1, dp, fp, rfl, hp, q⟩ := h
  obtain ⟨f, fd, at_, fn, F, hb⟩ := c.ex c1
  rw [Vals.ref1 r]
  obtain ⟨ox, od, J, _⟩ := ins_inst I hp
  have hu : X.A.in1.in1.units < cLine := hu_of (k := k + 1) hr.in1
  refine PySem.W.kso_call hu I.kIn J at_ fn (wpAny_mono (run_fn2 (us := [.ref p]) (vs := [.ref p]) F hr hb hx I (.cons rfl .nil) q) (fun v s' z => ?_) fun _ _ z => z)
  obtain ⟨v0, H2, I2, rv, n, e, q2⟩ := z
  subst e
  obtain ⟨tk, rfl⟩ := rv
  exact ⟨.str n, H2, I2, ⟨tk, rfl⟩, q2⟩
end
end Cs

set_option Elab.async false
set_option linter.all false
set_option maxRecDepth 100000
set_option maxHeartbeats 8000000
set_option pp.maxSteps 600
/-! Rules: ==, and their texts. -/
namespace Cs
open PySem L2
def ntS (n : Int) : Str := Str.ofString (toString n)
theorem log9 {n : Int} (h : Bnd9 n) : n.natAbs.log2 < 4 := by
  have h1 := h.1
  have h2 := h.2
  rcases Nat.lt_or_ge n.natAbs.log2 4 with q | q
  · exact q
  · have h3 : n.natAbs ≠ 0 := fun e => by rw [e] at q; exact absurd q (by decide)
    have := (Nat.le_log2 h3).mp q
    omega
theorem ntS_len {n : Int} (h : Bnd9 n) : (ntS n).length ≤ 1921 := PyProof.Rows.int_text_len_1921 (Nat.lt_trans (log9 h) (by decide))
theorem joinS_len (sep : Str) : ∀ ts : List Str, (Str.join sep ts).length ≤ (ts.map (·.length)).sum + ts.length * sep.length
  | [] => Nat.zero_le _
  | [x] => by show x.length ≤ _; simp
  | x :: y :: r => by
    have ih := joinS_len sep (y :: r)
    show (x ++ sep ++ Str.join sep (y :: r)).length ≤ _
    rw [strLen_append, strLen_append]
    simp only [List.map_cons, List.sum_cons, List.length_cons, Nat.add_mul, Nat.one_mul] at ih ⊢
    omega
theorem sumS_le {B : Nat} : ∀ {ts : List Str}, (∀ t ∈ ts, t.length ≤ B) → (ts.map (·.length)).sum ≤ ts.length * B
  | [], _ => Nat.zero_le _
  | t :: ts, h => by
    have := sumS_le (fun q m => h q (List.mem_cons_of_mem _ m))
    have := h t List.mem_cons_self
    simp only [List.map_cons, List.sum_cons, List.length_cons, Nat.add_mul, Nat.one_mul]
    omega
/-- the kinds with plus signs -/
def sumT (ks : List Str) : Str := Txt.join " + " ks
theorem kinds_sum {ks : List Str} (h : Kinds ks) : (ks.map (·.length)).sum ≤ 24 := by
  have h1 := h.hi
  have h2 := sumS_le (B := 8) (ts := ks) fun z m => (h.kd z m).1.2.1
  omega
theorem sumT_len {ks : List Str} (h : Kinds ks) : (sumT ks).length ≤ 33 := by
  have h1 := h.hi
  have h2 := joinS_len " + " ks
  have h3 := kinds_sum h
  have e : ((" + " : String) : Str).length = 3 := rfl
  unfold sumT
  rw [TL.join_eq]
  rw [e] at h2
  omega
/-- the ends fit the class -/
def EndOk : RCl → Int → Option Int → Prop
  | .al, l, m => Bnd9 l ∧ m = none
  | .am, l, m => l = 0 ∧ ∃ n, m = some n ∧ Bnd9 n
  | .bt, l, m => Bnd9 l ∧ ∃ n, m = some n ∧ Bnd9 n
  | .ex, l, m => Bnd9 l ∧ m = some l
def mostI : Option Int → Int
  | none => 0
  | some n => n
/-- the written rule -/
def strR : RCl → Int → Option Int → List Str → Str
  | .al, l, _, ks => Str.empty ++ "at least " ++ ntS l ++ " " ++ sumT ks
  | .am, _, m, ks => Str.empty ++ "at most " ++ ntS (mostI m) ++ " " ++ sumT ks
  | .bt, l, m, ks => Str.empty ++ "from " ++ ntS l ++ " to " ++ ntS (mostI m) ++ " " ++ sumT ks
  | .ex, l, _, ks => Str.empty ++ "exactly " ++ ntS l ++ " " ++ sumT ks
def spSumT (a : RAd) (c : RCl) : Sp := fun vs H Q _ => ∃ (p : Addr) (l : Int) (m : Option Int) (ks : List Str), vs = [.ref p] ∧ RulAt a H p c l m ks ∧ Kinds ks ∧ Q (.str (sumT ks)) H
def spStrR (a : RAd) (c : RCl) : Sp := fun vs H Q _ => ∃ (p : Addr) (l : Int) (m : Option Int) (ks : List Str), vs = [.ref p] ∧ RulAt a H p c l m ks ∧ Kinds ks ∧ EndOk c l m ∧ Q (.str (strR c l m ks)) H
/-- two rules are equal -/
def eqRB (l : Int) (m : Option Int) (ks : List Str) (l' : Int) (m' : Option Int) (ks' : List Str) : Bool := decide (l = l') && decide (m = m') && (ks.all (fun z => decide (z ∈ ks')) && ks'.all (fun z => decide (z ∈ ks)))
def spEqR (K : PySem.W.Frag) (a : RAd) : Sp := fun vs H Q _ => (∃ (p q : Addr) (c c' : RCl) (l l' : Int) (m m' : Option Int) (ks ks' : List Str), vs = [.ref p, .ref q] ∧ RulAt a H p c l m ks ∧ RulAt a H q c' l' m' ks' ∧ Kinds ks ∧ Kinds ks' ∧ ∀ H', Same H H' → Q (.bl (eqRB l m ks l' m' ks')) H') ∨
  (∃ (p : Addr) (y : V) (ty : String), vs = [.ref p, y] ∧ TyX K H y (.type ty) ∧ PySem.W.kitOne K (.type ty) (.ref a.R) = some false ∧ Q (.bl false) H)
theorem eqRB_symm {l l' : Int} {m m' : Option Int} {ks ks' : List Str} : eqRB l m ks l' m' ks' = eqRB l' m' ks' l m ks := by
  unfold eqRB
  rw [show decide (l = l') = decide (l' = l) from by rw [decide_eq_decide]; exact eq_comm, show decide (m = m') = decide (m' = m) from by rw [decide_eq_decide]; exact eq_comm, Bool.and_comm (ks.all _)]
/-- the lists of distinct words are the same exactly if the words are -/
theorem asc_same {ks ks' ws ws' : List Str} (h : Asc ws) (h' : Asc ws') (hm : ∀ z, z ∈ ws ↔ z ∈ ks) (hm' : ∀ z, z ∈ ws' ↔ z ∈ ks') : decide (ws = ws') = (ks.all (fun z => decide (z ∈ ks')) && ks'.all (fun z => decide (z ∈ ks))) := by
  rw [Bool.eq_iff_iff, decide_eq_true_eq, Bool.and_eq_true, List.all_eq_true, List.all_eq_true]
  constructor
  · rintro rfl
    exact ⟨fun z hz => decide_eq_true ((hm' z).mp ((hm z).mpr hz)), fun z hz => decide_eq_true ((hm z).mp ((hm' z).mpr hz))⟩
  · rintro ⟨h1, h2⟩
    exact asc_eq h h' fun z => ⟨fun hz => (hm' z).mpr (of_decide_eq_true (h1 z ((hm z).mp hz))), fun hz => (hm z).mpr (of_decide_eq_true (h2 z ((hm' z).mp hz)))⟩
def plR (zs : List Str) : PyData := .list (zs.map .str)
theorem plR_shaped {zs : List Str} (h : ∀ z ∈ zs, Word z) : SeqAt.shaped (plR zs) = true := by
  unfold SeqAt.shaped plR
  rw [Bool.and_eq_true]
  refine ⟨by rw [PyData.canLay0]; exact strs_can h, decide_eq_true ?_⟩
  rw [PyData.depth, strs_depth]
  decide
theorem plR_eqv (xs ys : List Str) : PyData.eqv (plR xs) (plR ys) = decide (xs = ys) := by
  rw [show decide (xs = ys) = @decide (xs = ys) (instDecidableEqList xs ys) from by congr]
  exact PySem.W.Datum.eqv (α := List Str) xs ys
section
variable {P : Program} {w : World} {K : PySem.W.Frag} {mg : Str → Option Value} {base : Heap}
theorem ok_eqR {f fDt : Addr} {fd fdDt : FuncData} {a : RAd} (F : Fun K "__eq__" "Rule.__eq__" s_Rule_eq f fd) (g : Bi mg) (Wo : RWo K mg a) (FDt : Def P w K mg base CX0 1 "distinct" ["words"] (spDistinctT K) fDt fdDt) : FnOk P w K mg base CX0 2 f fd ["self", "other"] (spEqR K a) := by
  obtain ⟨GDi, mDi, _, bDi⟩ := id FDt
  have FDi := FDt
  refine F.ok sc_Rule_eq (fun vs H Q E h => ?_) (fun cdv A outer s H vs Q E hr h => ?_)
  · rcases h with ⟨_, _, _, _, _, _, _, _, _, _, rfl, _⟩ | ⟨_, _, _, rfl, _⟩ <;> rfl
  · have hrDi : Room 1 _ := hr
    refine ⟨_, (pss_cons (ps_if (pt_not (pt_val (pe_callB call_isi (by rfl) g.isinstance (by decide +kernel) (pa_cons (pv 1) (pa_cons (pe_glob (v := .ref a.R) rfl Wo.mR rfl) pa_nil))))) (pss_one (ps_ret pe_bl)) pss_nil)
      (pss_cons (ps_set (i := 2) sc_Rule_eq.nd rfl (Or.inl rfl) (pe_and (pe_cmpR op_eq (pe_fld (pv 0) rfl) (pe_fld (pv 1) rfl) (nomark _)) (pe_one (pe_cmpR op_eq (pe_fld (pv 0) rfl) (pe_fld (pv 1) rfl) (nomark _)))))
      (pss_one (ps_ret (pe_and (pv 2) (pe_one (pe_cmpR (op_eqD hr.units) (pe_call GDi hrDi rfl mDi FDi.kp bDi .nil pass0 (pa_cons (pe_fld (pv 0) rfl) pa_nil)) (pe_call GDi hrDi rfl mDi FDi.kp bDi .nil pass0 (pa_cons (pe_fld (pv 1) rfl) pa_nil)) (nomark _)))))))), ?_⟩
    rcases h with ⟨p, q, c, c', l, l', m, m', ks, ks', rfl, ⟨dx, kt, fs, hp, hkt, f1, f2, f3, f4⟩, ⟨dx', kt', fs', hq, hkt', f1', f2', f3', f4'⟩, hK, hK', k⟩ | ⟨p, y, ty, rfl, hy, hn, k⟩
    · have rc := Wo.rc c
      have rc' := Wo.rc c'
      refine ⟨_, rfl, _, _, _, _, true, rfl, .own a.R, (Wo.ri c').ty hq, Wo.kitR c', _, rfl, iteF ?_⟩
      refine ⟨_, rfl, p, _, dx, fs, _, rfl, hp, rc.cl, rc.nl, f2, _, rfl, q, _, dx', fs', _, rfl, hq, rc'.cl, rc'.nl, f2', rfl, _, rfl, ?_⟩
      have k' := k
      unfold eqRB at k'
      rw [dec_int]
      by_cases e1 : l = l'
      · rw [decide_eq_true e1] at k'
        rw [show (l == l') = true from beq_iff_eq.mpr e1]
        refine iteT ⟨_, rfl, p, _, dx, fs, _, rfl, hp, rc.cl, rc.nm, f3, _, rfl, q, _, dx', fs', _, rfl, hq, rc'.cl, rc'.nm, f3', by cases m <;> cases m' <;> rfl, ?_⟩
        have e2 : decide (optV m = optV m') = decide (m = m') := by
          rw [decide_eq_decide]
          constructor
          · intro e
            cases m <;> cases m' <;> first | rfl | (cases e; done) | (unfold optV at e; cases e; rfl)
          · rintro rfl
            rfl
        refine ⟨_, rfl, _, rfl, ?_⟩
        rw [e2]
        by_cases e3 : m = m'
        · rw [decide_eq_true e3] at k' ⊢
          refine iteT ⟨_, rfl, p, _, dx, fs, _, rfl, hp, rc.cl, rc.nk, f1, kt, ks, rfl, SqT.of hkt, by have := hK.hi; omega, fun d1 H1 ws hd1 s1 g1 ha hm hle => ?_⟩
          refine ⟨_, rfl, q, _, dx', fs', _, rfl, s1 _ _ hq, rc'.cl, rc'.nk, f1', kt', ks', rfl, SqT.of (s1 _ _ hkt'), by have := hK'.hi; omega, fun d2 H2 ws' hd2 s2 g2 ha' hm' hle' => ?_⟩
          refine ⟨plR ws, plR ws', .lst (SqL.of (s2 _ _ g1)) (strs_dp ws), .lst (SqL.of g2) (strs_dp ws'), plR_shaped fun z hz => (hK.kd z ((hm z).mp hz)).1, plR_shaped fun z hz => (hK'.kd z ((hm' z).mp hz)).1, ?_⟩
          rw [plR_eqv, asc_same ha ha' hm hm']
          exact k' H2 (s1.trans s2)
        · rw [decide_eq_false e3] at k' ⊢
          exact iteF (k' H (Same.refl _))
      · rw [decide_eq_false e1] at k'
        rw [show (l == l') = false from beq_eq_false_iff_ne.mpr e1]
        exact iteF ⟨_, rfl, _, rfl, iteF (k' H (Same.refl _))⟩
    · exact ⟨_, rfl, _, _, _, _, false, rfl, .own a.R, hy, hn, _, rfl, iteT k⟩
theorem ok_sumT {f : Addr} {fd : FuncData} {a : RAd} {c : RCl} (F : Fun K "sum_text" "Rule.sum_text" s_Rule_sum_text f fd) (g : Bi mg) (Wo : RWo K mg a) : FnOk P w K mg base CX0 1 f fd ["self"] (spSumT a c) := by
  refine F.ok sc_Rule_sum_text (fun vs H Q E h => ?_) (fun cdv A outer s H vs Q E hr h => ?_)
  · obtain ⟨_, _, _, _, rfl, _⟩ := h
    rfl
  · obtain ⟨p, l, m, ks, rfl, ⟨dx, kt, fs, hp, hkt, f1, f2, f3, f4⟩, hK, k⟩ := h
    have rc := Wo.rc c
    have h1 := kinds_sum hK
    have h2 := hK.hi
    have e : ((" + " : String) : Str).length = 3 := rfl
    refine ⟨_, (pss_one (ps_ret (pe_join pe_str (pe_fld (pv 0) rfl)))), ?_⟩
    exact ⟨⟨_, rfl⟩, _, rfl, p, _, dx, fs, _, rfl, hp, rc.cl, rc.nk, f1, _, kt, ks, rfl, rfl, .inr (SqT.of hkt), by rw [e]; omega, k⟩
structure MSt (P : Program) (w : World) (K : PySem.W.Frag) (mg : Str → Option Value) (base : Heap) (a : RAd) (c : RCl) (f : Addr) (fd : FuncData) : Prop where
  me : Meth K (a.at c) "sum_text" f
  ok : FnOk P w K mg base CX0 1 f fd ["self"] (spSumT a c)
  b : Binds K fd ["self"] []
theorem ok_str_al {f fSt : Addr} {fd fdSt : FuncData} {a : RAd} (F : Fun K "__str__" "AtLeast.__str__" s_AtLeast_str f fd) (g : Bi mg) (Wo : RWo K mg a) (MSt : MSt P w K mg base a .al fSt fdSt) : FnOk P w K mg base CX0 2 f fd ["self"] (spStrR a .al) := by
  refine F.ok sc_AtLeast_str (fun vs H Q E h => ?_) (fun cdv A outer s H vs Q E hr h => ?_)
  · obtain ⟨_, _, _, _, rfl, _⟩ := h
    rfl
  · obtain ⟨p, l, m, ks, rfl, hR, hK, ⟨hl, rfl⟩, k⟩ := h
    obtain ⟨dx, kt, fs, hp, hkt, f1, f2, f3, f4⟩ := id hR
    have rc := Wo.rc .al
    have hrSt : Room 1 _ := hr
    have j1 := sumT_len hK
    have n1 := ntS_len hl
    have e1 : (("at least " : String) : Str).length = 9 := rfl
    have e2 : ((" " : String) : Str).length = 1 := rfl
    have ez : Str.empty.length = 0 := rfl
    have big : 8000 ≤ sizeLine := by decide
    refine ⟨_, (pss_one (ps_ret (pe_jn (PJ.cons pe_str (PJ.cons (pe_fmt (pe_fld (pv 0) rfl)) (PJ.cons pe_str (PJ.cons (pe_fmt (pe_meth0 (pv 0) rc.cl MSt.me MSt.ok hrSt MSt.b .nil pass0)) PJ.nil))))))), ?_⟩
    refine ⟨_, rfl, by rw [strLen_append, e1, ez]; omega, ?_⟩
    refine ⟨_, rfl, p, _, dx, fs, _, rfl, hp, rc.cl, rc.nl, f2, .inr ⟨l, rfl, Nat.lt_trans (log9 hl) (by decide), ntS l, rfl, by rw [strLen_append, strLen_append, e1, ez]; omega, ?_⟩⟩
    refine ⟨_, rfl, by rw [strLen_append, strLen_append, strLen_append, e1, e2, ez]; omega, ?_⟩
    refine ⟨_, rfl, p, dx, fs, rfl, hp, f4 _ (by decide), p, _, _, ks, rfl, hR, hK, .inl ⟨sumT ks, rfl, by omega, sumT ks, rfl, by rw [strLen_append, strLen_append, strLen_append, strLen_append, e1, e2, ez]; omega, ?_⟩⟩
    exact k
theorem ok_str_am {f fSt : Addr} {fd fdSt : FuncData} {a : RAd} (F : Fun K "__str__" "AtMost.__str__" s_AtMost_str f fd) (g : Bi mg) (Wo : RWo K mg a) (MSt : MSt P w K mg base a .am fSt fdSt) : FnOk P w K mg base CX0 2 f fd ["self"] (spStrR a .am) := by
  refine F.ok sc_AtMost_str (fun vs H Q E h => ?_) (fun cdv A outer s H vs Q E hr h => ?_)
  · obtain ⟨_, _, _, _, rfl, _⟩ := h
    rfl
  · obtain ⟨p, l, m, ks, rfl, hR, hK, ⟨rfl, n, rfl, hn⟩, k⟩ := h
    obtain ⟨dx, kt, fs, hp, hkt, f1, f2, f3, f4⟩ := id hR
    have rc := Wo.rc .am
    have hrSt : Room 1 _ := hr
    have j1 := sumT_len hK
    have n1 := ntS_len hn
    have e1 : (("at most " : String) : Str).length = 8 := rfl
    have e2 : ((" " : String) : Str).length = 1 := rfl
    have ez : Str.empty.length = 0 := rfl
    have big : 8000 ≤ sizeLine := by decide
    refine ⟨_, (pss_one (ps_ret (pe_jn (PJ.cons pe_str (PJ.cons (pe_fmt (pe_fld (pv 0) rfl)) (PJ.cons pe_str (PJ.cons (pe_fmt (pe_meth0 (pv 0) rc.cl MSt.me MSt.ok hrSt MSt.b .nil pass0)) PJ.nil))))))), ?_⟩
    refine ⟨_, rfl, by rw [strLen_append, e1, ez]; omega, ?_⟩
    refine ⟨_, rfl, p, _, dx, fs, _, rfl, hp, rc.cl, rc.nm, f3, .inr ⟨n, rfl, Nat.lt_trans (log9 hn) (by decide), ntS n, rfl, by rw [strLen_append, strLen_append, e1, ez]; omega, ?_⟩⟩
    refine ⟨_, rfl, by rw [strLen_append, strLen_append, strLen_append, e1, e2, ez]; omega, ?_⟩
    refine ⟨_, rfl, p, dx, fs, rfl, hp, f4 _ (by decide), p, _, _, ks, rfl, hR, hK, .inl ⟨sumT ks, rfl, by omega, sumT ks, rfl, by rw [strLen_append, strLen_append, strLen_append, strLen_append, e1, e2, ez]; omega, ?_⟩⟩
    exact k
theorem ok_str_bt {f fSt : Addr} {fd fdSt : FuncData} {a : RAd} (F : Fun K "__str__" "Between.__str__" s_Between_str f fd) (g : Bi mg) (Wo : RWo K mg a) (MSt : MSt P w K mg base a .bt fSt fdSt) : FnOk P w K mg base CX0 2 f fd ["self"] (spStrR a .bt) := by
  refine F.ok sc_Between_str (fun vs H Q E h => ?_) (fun cdv A outer s H vs Q E hr h => ?_)
  · obtain ⟨_, _, _, _, rfl, _⟩ := h
    rfl
  · obtain ⟨p, l, m, ks, rfl, hR, hK, ⟨hl, n, rfl, hn⟩, k⟩ := h
    obtain ⟨dx, kt, fs, hp, hkt, f1, f2, f3, f4⟩ := id hR
    have rc := Wo.rc .bt
    have hrSt : Room 1 _ := hr
    have j1 := sumT_len hK
    have n1 := ntS_len hl
    have n2 := ntS_len hn
    have e3 : ((" to " : String) : Str).length = 4 := rfl
    have e1 : (("from " : String) : Str).length = 5 := rfl
    have e2 : ((" " : String) : Str).length = 1 := rfl
    have ez : Str.empty.length = 0 := rfl
    have big : 8000 ≤ sizeLine := by decide
    refine ⟨_, (pss_one (ps_ret (pe_jn (PJ.cons pe_str (PJ.cons (pe_fmt (pe_fld (pv 0) rfl)) (PJ.cons pe_str (PJ.cons (pe_fmt (pe_fld (pv 0) rfl)) (PJ.cons pe_str (PJ.cons (pe_fmt (pe_meth0 (pv 0) rc.cl MSt.me MSt.ok hrSt MSt.b .nil pass0)) PJ.nil))))))))), ?_⟩
    refine ⟨_, rfl, by rw [strLen_append, e1, ez]; omega, ?_⟩
    refine ⟨_, rfl, p, _, dx, fs, _, rfl, hp, rc.cl, rc.nl, f2, .inr ⟨l, rfl, Nat.lt_trans (log9 hl) (by decide), ntS l, rfl, by rw [strLen_append, strLen_append, e1, ez]; omega, ?_⟩⟩
    refine ⟨_, rfl, by rw [strLen_append, strLen_append, strLen_append, e1, e3, ez]; omega, ?_⟩
    refine ⟨_, rfl, p, _, dx, fs, _, rfl, hp, rc.cl, rc.nm, f3, .inr ⟨n, rfl, Nat.lt_trans (log9 hn) (by decide), ntS n, rfl, by rw [strLen_append, strLen_append, strLen_append, strLen_append, e1, e3, ez]; omega, ?_⟩⟩
    refine ⟨_, rfl, by rw [strLen_append, strLen_append, strLen_append, strLen_append, strLen_append, e1, e2, e3, ez]; omega, ?_⟩
    refine ⟨_, rfl, p, dx, fs, rfl, hp, f4 _ (by decide), p, _, _, ks, rfl, hR, hK, .inl ⟨sumT ks, rfl, by omega, sumT ks, rfl, by rw [strLen_append, strLen_append, strLen_append, strLen_append, strLen_append, strLen_append, e1, e2, e3, ez]; omega, ?_⟩⟩
    exact k
theorem ok_str_ex {f fSt : Addr} {fd fdSt : FuncData} {a : RAd} (F : Fun K "__str__" "Exactly.__str__" s_Exactly_str f fd) (g : Bi mg) (Wo : RWo K mg a) (MSt : MSt P w K mg base a .ex fSt fdSt) : FnOk P w K mg base CX0 2 f fd ["self"] (spStrR a .ex) := by
  refine F.ok sc_Exactly_str (fun vs H Q E h => ?_) (fun cdv A outer s H vs Q E hr h => ?_)
  · obtain ⟨_, _, _, _, rfl, _⟩ := h
    rfl
  · obtain ⟨p, l, m, ks, rfl, hR, hK, ⟨hl, rfl⟩, k⟩ := h
    obtain ⟨dx, kt, fs, hp, hkt, f1, f2, f3, f4⟩ := id hR
    have rc := Wo.rc .ex
    have hrSt : Room 1 _ := hr
    have j1 := sumT_len hK
    have n1 := ntS_len hl
    have e1 : (("exactly " : String) : Str).length = 8 := rfl
    have e2 : ((" " : String) : Str).length = 1 := rfl
    have ez : Str.empty.length = 0 := rfl
    have big : 8000 ≤ sizeLine := by decide
    refine ⟨_, (pss_one (ps_ret (pe_jn (PJ.cons pe_str (PJ.cons (pe_fmt (pe_fld (pv 0) rfl)) (PJ.cons pe_str (PJ.cons (pe_fmt (pe_meth0 (pv 0) rc.cl MSt.me MSt.ok hrSt MSt.b .nil pass0)) PJ.nil))))))), ?_⟩
    refine ⟨_, rfl, by rw [strLen_append, e1, ez]; omega, ?_⟩
    refine ⟨_, rfl, p, _, dx, fs, _, rfl, hp, rc.cl, rc.nl, f2, .inr ⟨l, rfl, Nat.lt_trans (log9 hl) (by decide), ntS l, rfl, by rw [strLen_append, strLen_append, e1, ez]; omega, ?_⟩⟩
    refine ⟨_, rfl, by rw [strLen_append, strLen_append, strLen_append, e1, e2, ez]; omega, ?_⟩
    refine ⟨_, rfl, p, dx, fs, rfl, hp, f4 _ (by decide), p, _, _, ks, rfl, hR, hK, .inl ⟨sumT ks, rfl, by omega, sumT ks, rfl, by rw [strLen_append, strLen_append, strLen_append, strLen_append, e1, e2, ez]; omega, ?_⟩⟩
    exact k
end
end Cs

set_option Elab.async false
set_option linter.all false
set_option maxRecDepth 100000
set_option maxHeartbeats 4000000
/-! Own errors with one field. -/
namespace Cs
open PySem PySem.Spec PyProof.Rows L2
/-- __init__ of an own error: self.fld = y -/
def spXi (C : Addr) (fld : Str) : Sp := fun vs H Q _ => ∃ (a : Addr) (y : V), vs = [.ref a, y] ∧ H a = some (exo a C none) ∧ ∀ dx, H dx = none → dx ≠ a → Q .non (upd (upd H dx (exd dx [(fld, y)])) a (exo a C (some dx)))
theorem upd_back {H : Hp} {a dx : Addr} {o1 o2 o3 o4 : HO} (ha : H a = none) (n : dx ≠ a) : upd (del (upd (upd (upd H a o1) dx o2) a o3) a) dx o4 = upd H dx o4 := by
  funext b
  by_cases c : b = dx
  · subst c
    rw [upd_same, upd_same]
  · rw [upd_ne c, upd_ne c]
    by_cases e : b = a
    · subst e
      rw [del_same, ha]
    · rw [del_ne e, upd_ne e, upd_ne c, upd_ne e]
theorem xmk {C : Addr} {fld : Str} {y : V} {H1 : Hp} {Q : XK} (k : ∀ dx, H1 dx = none → Q (.ref C) (some dx) (upd H1 dx (.xd [(fld, y)]))) :
    ([y] : List V).length ≤ 1000 ∧ ∀ a, H1 a = none → spXi C fld (.ref a :: ([y] ++ [])) (upd H1 a (exo a C none)) (fun v H2 => v = .non ∧ ∃ (d : Addr) (fs : List (Str × V)), H2 a = some (exo a C (some d)) ∧ H2 d = some (exd d fs) ∧ H1 d = none ∧ Q (.ref C) (some d) (upd (del H2 a) d (.xd fs))) (fun _ _ _ => False) := by
  refine ⟨by show 1 ≤ 1000; decide, fun a ha => ⟨a, y, rfl, upd_same, fun dx hdx ne => ⟨rfl, dx, _, upd_same, by rw [upd_ne ne]; exact upd_same, ?_, ?_⟩⟩⟩
  · rw [upd_ne ne] at hdx
    exact hdx
  · rw [upd_back ha ne]
    exact k dx (by rw [upd_ne ne] at hdx; exact hdx)
/-- an error of the class at S is caught by its own name -/
theorem exm_self {K : PySem.W.Frag} {S : Addr} (h1 : PySem.W.subIn K (.ref S) (.type "BaseException") = some true) (h2 : PySem.W.isClsIn K S = true) (h3 : PySem.W.typeIn K (.ref S) = some (.type "type")) (h4 : PySem.W.subIn K (.ref S) (.ref S) = some true) : PySem.W.exmOne K (.ref S) (.ref S) = some true := by
  have h2' : (PySem.W.clsIn K S).isSome = true := h2
  unfold PySem.W.exmOne PySem.W.kitCls
  simp [h1, h2', h3, h4]
/-- an own error as those have it that raise it -/
structure XDef (P : Program) (w : World) (K : PySem.W.Frag) (mg : Str → Option Value) (base : Heap) (x : Str) (C fI : Addr) (fld : Str) (ps : List Str) (fd : FuncData) : Prop where
  c : OexC K C
  iC : PySem.W.findIn K (.ref C) "__init__" = some (some (.ref fI))
  tI : PySem.W.typeIn K (.ref fI) = some (.type "function")
  ok : FnOk P w K mg base CX0 1 fI fd ps (spXi C fld)
  b : Binds K fd ps []
  mg_ : mg x = some (.ref C)
  te : PySem.W.exmOne K (.ref C) (.ref C) = some true
end Cs

set_option Elab.async false
set_option linter.all false
set_option maxRecDepth 100000
set_option maxHeartbeats 4000000
/-! isinstance(e, C) of a caught error that has its own dict; defs that let nothing out after all. -/
namespace Cs
open PySem PySem.Spec PyProof.Rows L2
section
variable {prog : Program} {w : World} {A : Around} {E : Value → Shared → Prop} {s : Shared} {K : PySem.W.Frag} {x D : Addr} {ox od : Obj}
/-- e.__class__ of an error with a dict -/
theorem exd_class {Q : Option Value → Shared → Prop} (C : ExcC K D) (X : K.In s.heap) (I : PySem.W.InstAt s.heap x ox D (some od)) (h : Q (some (.ref D)) { s with toks := s.toks + 1 }) : wpAny (model prog w) A (getAttr? (.ref x) "__class__") Q E s := by
  have hf : PySem.W.findObj K D (some od) "__class__" = some (.bind (.builtin "getset_descriptor.__get__") (.builtin "object.__class__")) := PySem.W.findObj_data (by obtain ⟨cd, hc, _⟩ := PySem.W.any_some C.hd; rw [hc]; rfl) C.ha C.hn C.ht
  obtain ⟨hp, g, d, t, os⟩ := s
  have T0 := I.type (M := model prog w)
  have T1 := PySem.W.looks_findIn (M := model prog w) X C.hg
  have T2 := PySem.W.looks_findIn (M := model prog w) X C.hk
  have T3 := PySem.W.looks_find (M := model prog w) X I hf
  have up : PySem.W.Looks (model prog w) hp (isInstance (.ref x) (.type "BaseException")) true := T0.andThen (PySem.W.looks_subIn X C.hs)
  have e2 : (Value.builtin "BaseException.__getattribute__" == Value.builtin "object.__getattribute__") = false := by decide +kernel
  have e1 : (onTheHeap (Value.ref D) && Value.builtin "BaseException.__getattribute__" == Value.builtin "object.__getattribute__") = false := by rw [e2]; rfl
  unfold getAttr?; unfold getAttrBy?; unfold getAttrBy
  refine wpAny_bind (wpAny_mkText (wpAny_bind (wpAny_attempt (wpAny_holding (wpAny_bind (T0.at (wpAny_bind (T1.at ?_))))))))
  show wpAny _ _ (if (onTheHeap (Value.ref D) && Value.builtin "BaseException.__getattribute__" == Value.builtin "object.__getattribute__") = true then _ else _) _ _ _
  rw [e1, if_neg Bool.false_ne_true]; unfold getAttrByItsOwn; unfold hookBefore
  refine wpAny_bind ?_; rw [if_pos (show onTheHeap (Value.ref D) = true from rfl)]
  refine T2.at (wpAny_bind (wpAny_attempt (wpAny_holding ?_)))
  unfold callGetattribute; rw [show (false && onTheHeap (Value.builtin "BaseException.__getattribute__")) = false from rfl, if_neg Bool.false_ne_true]; unfold boundAndCalled
  rw [PySem.F.excAttr_ValueError.ga.bind (.ref x)]; refine wpAny_bind (wpAny_pure ?_)
  show wpAny _ _ (call (.builtin "BaseException.__getattribute__") [.ref x, .str "__class__" t]) _ _ _
  refine wpAny_call (codeAny_call_builtin PySem.F.excAttr_ValueError.ga.plain PySem.F.entry_bexc_ga (@PySem.W.check_slot (model prog w) _ _ ⟨hp, g, d, t + 1, os⟩ "BaseException.__getattribute__" "BaseException" "__getattribute__" (.ref x) [.str "__class__" t] [] _ (by decide +kernel) (by decide +kernel) up (PySem.F.args_bexc_ga (.ref x) (.str "__class__" t)) ?_))
  unfold Builtin.«object.__getattribute__»; refine wpAny_bind (wpAny_of_eq (a := ((Value.ref x : Value), [Value.str "__class__" t])) (by first | rfl | (simp only [slotArgs]; rfl)) ?_)
  refine wpAny_bind (wpAny_pure (wpAny_bind (T0.at (wpAny_bind (T3.at ?_))))); show wpAny _ _ (holding [Value.builtin "object.__class__"] (call (.builtin "getset_descriptor.__get__") [.builtin "object.__class__", .ref x, .ref D]) >>= ret) _ _ _
  refine wpAny_bind (wpAny_holding (wpAny_call (PySem.W.class_get (s := ⟨hp, g, d, t + 1, os⟩) (ox := ox) (od := some od) X I C.hm (wpAny_pure ?_)))); show wpAny _ _ (handedOut (.ref D)) _ _ _
  rw [PySem.W.handedOut_of (v := .ref D) rfl]; first | exact wpAny_pure (wpAny_pure h) | exact wpAny_pure h | exact wpAny_pure (wpAny_bind (wpAny_pure (wpAny_pure h)))
theorem exd_kit (C : ExcC K D) : PySem.W.KitX K (.ref x) (.ref D) (fun h => PySem.W.InstAt h x ox D (some od)) := by
  have hc : ∃ c' d' cd' sl', K.lookup D = some ⟨c', d', .cls cd', sl'⟩ := by
    obtain ⟨cdD, hcD, _⟩ := PySem.W.any_some C.hd
    unfold PySem.W.clsIn at hcD
    split at hcD
    · rename_i c' d' cd' sl' ho
      exact ⟨c', d', _, sl', ho⟩
    · cases hcD
  obtain ⟨c', d', cd', sl', ho⟩ := hc
  have h3 : ∀ (h : Heap) (tp : Addr) (dd : Option Addr) (its : Array Value) (n : Nat) (sl : Array (Option Value)), K.In h → h.get? tp = some ⟨.type "tuple", dd, .seq its n, sl⟩ → (Value.ref D == Value.ref tp) = false := fun h tp dd its n sl X htp => by
    refine Bool.eq_false_iff.mpr fun q => ?_
    have e : D = tp := Value.ref.inj (beq_iff_eq.mp q)
    subst e
    have z := (X _ _ ho).symm.trans htp
    cases z
  refine ⟨fun _ _ _ I => I.type, fun _ _ X _ A1 Q1 E1 s1 k q => ?_, fun h tp dd its => h3 h tp dd its.toArray, fun X I k => exd_class C X I k⟩
  unfold isType; unfold loadHead; exact wpAny_bind (wpAny_loadPart (k _ _ (X _ _ ho)) (wpAny_pure q))
end
/-- isinstance(e, c), e the error that the suite holds -/
def rIsD (K : PySem.W.Frag) (a : Addr) (cls : Value) (d : Option Addr) : List V → Hp → VK → Prop := fun xs H Q => ∃ (D dd : Addr) (fs : List (Str × V)) (c : V) (cv : Value) (b : Bool), ExcC K D ∧ cls = .ref D ∧ d = some dd ∧ H dd = some (.xd fs) ∧ xs = [.ref a, c] ∧ (∀ u, RelV c u → u = cv) ∧ PySem.W.kitOne K (.ref D) cv = some b ∧ Q (.bl b) H
theorem call_isD {X : Cx} {a : Addr} {oe : Obj} {cls : Value} {d : Option Addr} {pn : List (Addr × Obj)} (hz : Zc cls d oe) (hf : ∃ vs, oe.data = .fields vs) : CallR (X.suite a ((a, oe) :: pn)) (.builtin "isinstance") (rIsD X.K a cls d) := by
  intro pins s σ H xs us Q I r h
  obtain ⟨D, dd, fs, c, cv, b, C, rfl, rfl, hdd, rfl, hcv, e, q⟩ := h
  cases r with
  | cons rx rr =>
    cases rr with
    | cons rt rr =>
      cases rr
      cases rx
      have ec := hcv _ rt
      subst ec
      obtain ⟨hget, _⟩ := I.pin (a, oe) (List.mem_append.mpr (.inl List.mem_cons_self))
      obtain ⟨vs, hv⟩ := hf
      have hx : ObjOk X.prog X.w H s.heap dd (.xd fs) := I.hok dd _ hdd
      obtain ⟨mA, hns, hr⟩ := hx
      obtain ⟨od, ho, hl⟩ := lookIn_ns hns
      have J : PySem.W.InstAt s.heap a oe D (some od) := ⟨hget, hz.1, by unfold PySem.W.notCls; rw [hv] <;> rfl, by rw [hz.2]; exact ho⟩
      exact PySem.W.kia_one (exd_kit C) I.kIn J e (fun z => nomatch z) fun tk => ⟨.bl b, H, I.kept (t' := tk) fun _ _ z => z, rfl, q⟩
/-- a def whose promise lets nothing out -/
theorem FnR.calm {P : Program} {w : World} {K : PySem.W.Frag} {mg : Str → Option Value} {base : Heap} {k : Nat} {f : Addr} {sp : Sp} (F : FnR P w K mg base (L2.CX P w) k f sp) : FnR P w K mg base CX0 k f (fun vs H Q _ => sp vs H Q fun _ _ _ => False) := by
  intro A outer s H us vs Q E hr e0 r hs
  refine codeAny_mono (F A outer s H us vs Q _ hr e0 r hs) fun r s' h => ?_
  cases r with
  | ok fl => cases fl <;> exact h
  | error e =>
    obtain ⟨_, _, _, _, _, _, _, _, _, _, _, _, z⟩ := h
    exact z.elim
theorem FnOk.calm {P : Program} {w : World} {K : PySem.W.Frag} {mg : Str → Option Value} {base : Heap} {k : Nat} {f : Addr} {fd : FuncData} {ps : List Str} {sp : Sp} (F : FnOk P w K mg base (L2.CX P w) k f fd ps sp) : FnOk P w K mg base CX0 k f fd ps (fun vs H Q _ => sp vs H Q fun _ _ _ => False) := by
  refine ⟨fun vs H Q E h => F.len vs H Q _ h, fun A outer s H args us vs Q E hr e0 b r hs => ?_⟩
  refine codeAny_mono (F.run A outer s H args us vs Q _ hr e0 b r hs) fun r s' h => ?_
  cases r with
  | ok fl => cases fl <;> exact h
  | error e =>
    obtain ⟨_, _, _, _, _, _, _, _, _, _, _, _, z⟩ := h
    exact z.elim
end Cs

set_option Elab.async false
set_option linter.all false
set_option maxRecDepth 100000
set_option maxHeartbeats 4000000
set_option pp.maxSteps 600
/-! Rules made of any values, or BadRule raised. -/
namespace Cs
open PySem L2 NdefX
/-- the values that are handed in -/
inductive VO (H : Hp) : V → Prop where
  | non : VO H .non
  | bl (b : Bool) : VO H (.bl b)
  | int (n : Int) : VO H (.int n)
  | str (z : Str) (h : z.length ≤ 100000) : VO H (.str z)
  | lst {a : Addr} {xs : List V} (h : H a = some (.lst xs)) : VO H (.ref a)
  | tup {a : Addr} {xs : List V} (h : H a = some (.tup xs)) : VO H (.ref a)
def bndV : V → Bool
  | .int n => decide (0 ≤ n) && decide (n ≤ 9)
  | _ => false
def kndV : V → Bool
  | .str z => kindB z
  | _ => false
theorem VO.up {H H' : Hp} {v : V} {x C dx : Addr} {fs : List (Str × V)} (h : VO H v) (hx : H x = some (.ins C dx fs)) (k : ∀ b o, H b = some o → b ≠ x → H' b = some o) : VO H' v := by
  cases h with
  | non => exact .non
  | bl b => exact .bl b
  | int n => exact .int n
  | str z h => exact .str z h
  | lst h => exact .lst (k _ _ h (ne_of h hx (by intro z; cases z)))
  | tup h => exact .tup (k _ _ h (ne_of h hx (by intro z; cases z)))
theorem VO.same {H H' : Hp} {v : V} (s : Same H H') (h : VO H v) : VO H' v := by
  cases h with
  | non => exact .non
  | bl b => exact .bl b
  | int n => exact .int n
  | str z h => exact .str z h
  | lst h => exact .lst (s _ _ h)
  | tup h => exact .tup (s _ _ h)
theorem bnd_ask {K : PySem.W.Frag} {H : Hp} {v : V} {Q : VK} {E : XK} (h : VO H v) (q : Q (.bl (bndV v)) H) : spIsBound K [v] H Q E := by
  cases h with
  | non => exact .inr ⟨_, rfl, ⟨"NoneType", .base .non, .inr (by decide +kernel)⟩, q⟩
  | bl b => exact .inr ⟨_, rfl, ⟨"bool", .base (.bl b), .inl rfl⟩, q⟩
  | int n => exact .inl ⟨n, rfl, q⟩
  | str z h => exact .inr ⟨_, rfl, ⟨"str", .base (.str z), .inr (by decide +kernel)⟩, q⟩
  | lst h => exact .inr ⟨_, rfl, ⟨"list", .base (.lst h), .inr (by decide +kernel)⟩, q⟩
  | tup h => exact .inr ⟨_, rfl, ⟨"tuple", .base (.tup h), .inr (by decide +kernel)⟩, q⟩
theorem knd_ask {K : PySem.W.Frag} {H : Hp} {v : V} {Q : VK} {E : XK} (h : VO H v) (q : ∀ H', Same H H' → Q (.bl (kndV v)) H') : spIsKind K [v] H Q E := by
  have q0 := q H (Same.refl H)
  cases h with
  | non => exact .inr ⟨_, "NoneType", rfl, .base .non, by decide +kernel, q0⟩
  | bl b => exact .inr ⟨_, "bool", rfl, .base (.bl b), by decide +kernel, q0⟩
  | int n => exact .inr ⟨_, "int", rfl, .base (.int n), by decide +kernel, q0⟩
  | str z h => exact .inl ⟨z, rfl, h, q⟩
  | lst h => exact .inr ⟨_, "list", rfl, .base (.lst h), by decide +kernel, q0⟩
  | tup h => exact .inr ⟨_, "tuple", rfl, .base (.tup h), by decide +kernel, q0⟩
theorem nil_it {σ : L2.St} {H : Hp} {k : List V → Hp → Prop} (h : k [] H) : tNil σ H k := h
theorem bndV_int {v : V} (h : bndV v = true) : ∃ n, v = .int n ∧ Bnd9 n := by
  cases v with
  | int n =>
    have h : (decide (0 ≤ n) && decide (n ≤ 9)) = true := h
    rw [Bool.and_eq_true, decide_eq_true_eq, decide_eq_true_eq] at h
    exact ⟨n, rfl, h⟩
  | _ => cases h
theorem kndV_str {v : V} (h : kndV v = true) : ∃ z, v = .str z ∧ kindB z = true := by
  cases v with
  | str z => exact ⟨z, rfl, h⟩
  | _ => cases h
theorem knd_strs {ks : List V} (h : ks.all kndV = true) : ∃ zs : List Str, ks = zs.map V.str := by
  induction ks with
  | nil => exact ⟨[], rfl⟩
  | cons v ks ih =>
    rw [List.all_cons, Bool.and_eq_true] at h
    obtain ⟨z, rfl, _⟩ := kndV_str h.1
    obtain ⟨zs, rfl⟩ := ih h.2
    exact ⟨z :: zs, rfl⟩
/-- one to three kinds, none twice -/
def kindsV (ks : List V) : Bool := (decide (1 ≤ ks.length) && decide (ks.length ≤ 3)) && (ks.all kndV && decide ks.Nodup)
/-- BadRule is raised -/
def BadR (B : Addr) (H : Hp) (x : Addr) (z : Str) (E : XK) : Prop := ∀ (H' : Hp) (dd : Addr), (∀ b o, H b = some o → b ≠ x → H' b = some o) → H' dd = none → E (.ref B) (some dd) (upd H' dd (.xd [(("what" : Str), .str z)]))
def RulNewV (C : Addr) (H : Hp) (Q : VK) (x dx : Addr) (ks : List V) (F : Addr → List (Str × V)) : Prop :=
  ∀ (kt : Addr) (H' : Hp), H kt = none → H' kt = some (.tup ks) → H' x = some (.ins C dx (F kt)) → (∀ b o, H b = some o → b ≠ x → H' b = some o) → Q .non H'
/-- good kinds and what follows, or bad ones -/
def EndK (B C : Addr) (H : Hp) (Q : VK) (E : XK) (x dx : Addr) (ks : List V) (F : Addr → List (Str × V)) : Prop := (kindsV ks = true ∧ RulNewV C H Q x dx ks F) ∨ (kindsV ks = false ∧ BadR B H x "kinds" E)
def spRuleBX (B C : Addr) : Sp := fun vs H Q E => ∃ (x kt dx : Addr) (fs : List (Str × V)) (ks : List V), vs = [.ref x, .ref kt] ∧ H x = some (.ins C dx fs) ∧ fs.length < 900 ∧ H kt = some (.tup ks) ∧ ks.length ≤ 100 ∧ (∀ v ∈ ks, VO H v) ∧
  ((kindsV ks = true ∧ ∀ H', H' x = some (.ins C dx (putF "kinds" (.ref kt) fs)) → (∀ b o, H b = some o → b ≠ x → H' b = some o) → Q .non H') ∨ (kindsV ks = false ∧ BadR B H x "kinds" E))
def spRuleX (B C : Addr) : Sp := fun vs H Q E => ∃ (x dx : Addr) (fs : List (Str × V)) (ks : List V), vs = .ref x :: ks ∧ H x = some (.ins C dx fs) ∧ fs.length < 900 ∧ ks.length ≤ 100 ∧ (∀ v ∈ ks, VO H v) ∧ EndK B C H Q E x dx ks (fun kt => putF "kinds" (.ref kt) fs)
theorem str_inj_nodup {zs : List Str} : (zs.map V.str).Nodup ↔ zs.Nodup := by
  rw [List.Nodup, List.pairwise_map]
  constructor
  · exact fun h => h.imp fun n e => n (by rw [e])
  · exact fun h => h.imp fun n e => n (V.str.inj e)
theorem nd_of_len {ws zs : List Str} (hw : ws.Nodup) (hm : ∀ z, z ∈ ws ↔ z ∈ zs) (q : zs.length ≤ ws.length) : zs.Nodup := by
  induction zs generalizing ws with
  | nil => exact List.nodup_nil
  | cons z zs ih =>
    rw [List.length_cons] at q
    by_cases hz : z ∈ zs
    · have := nd_len hw (ys := zs) fun y hy => by
        rcases List.mem_cons.mp ((hm y).mp hy) with e | e
        · rw [e]; exact hz
        · exact e
      omega
    · have hzw : z ∈ ws := (hm z).mpr List.mem_cons_self
      refine List.nodup_cons.mpr ⟨hz, ih (ws := ws.erase z) (hw.erase z) (fun y => ?_) ?_⟩
      · rw [hw.mem_erase_iff, hm y, List.mem_cons]
        constructor
        · rintro ⟨a, b | b⟩
          · exact absurd b a
          · exact b
        · exact fun h => ⟨fun e => hz (e ▸ h), .inr h⟩
      · rw [List.length_erase_of_mem hzw]
        omega
section
variable {P : Program} {w : World} {K : PySem.W.Frag} {mg : Str → Option Value} {base : Heap}
theorem ok_xrule {B f : Addr} {fd : FuncData} (F : Fun K "__init__" "BadRule.__init__" s_BadRule_init f fd) (T : OexC K B) (hno : PySem.W.findIn K (.ref B) "what" = some none) : FnOk P w K mg base CX0 1 f fd ["self", "what"] (spXi B "what") := by
  refine F.ok sc_BadRule_init (fun vs H Q E h => ?_) (fun cdv A outer s H vs Q E hr h => ?_)
  · obtain ⟨_, _, rfl, _⟩ := h
    rfl
  · obtain ⟨a, y, rfl, ha, k⟩ := h
    refine ⟨_, (pss_one (ps_ost (pv 0) (pv 1))), ?_⟩
    exact ⟨_, rfl, _, rfl, a, B, rfl, T, hno, .inl ⟨ha, fun dx hdx ne => k dx hdx ne⟩⟩
theorem rule_bodyX {B C f fIk fDt fX : Addr} {fdIk fdDt fdX : FuncData} {cdv : Value} {A : Around} {outer : List Env} {s : Shared} {H : Hp} {vs : List V} {Q : VK} {E : XK} (g : Bi mg) (R : RC K C)
    (FIk : Def P w K mg base CX0 2 "is_kind" ["thing"] (spIsKind K) fIk fdIk) (FDt : Def P w K mg base CX0 1 "distinct" ["words"] (spDistinctT K) fDt fdDt) (XB : XDef P w K mg base "BadRule" B fX "what" ["self", "what"] fdX)
    (hr : Room 2 (A.deeper (PyProof.Rows.envOfC "Rule.__init__" (defScope s_Rule_init) s.heap.objs.size f cdv))) (h : spRuleBX B C vs H Q E) :
    ∃ t, PSs (cxOf (L2.CX P w) P w K mg base ["self", "kinds", "kind"] "Rule.__init__" (defScope s_Rule_init) f cdv A outer s H E) (defBody s_Rule_init) t ∧ t { nx := fun _ H' => Q .non H', rt := Q } (L2.start ["self", "kinds", "kind"] vs) H := by
  obtain ⟨GIk, mIk, _, bIk⟩ := id FIk
  obtain ⟨GDi, mDi, _, bDi⟩ := id FDt
  have FDi := FDt
  have hrIk : Room 2 _ := hr
  have hrX : Room 2 _ := hr
  have hrDi : Room 1 _ := hr.mono (by decide)
  obtain ⟨x, kt, dx, fs, ks, rfl, hx, hfs, hkt, hln, hV, k⟩ := h
  refine ⟨_, (pss_cons (ps_if (PW.pt (pw_or (pt_not (pt_chain op_le op_le pe_int (pe_callB call_len (by rfl) g.len PySem.boot_len (pa_cons (pv 1) pa_nil)) pe_int)) (pw_or1 (pt_not (pt_val (pe_callB (cr_all rfl) (by rfl) g.all (by decide +kernel) (pa_cons (pe_lc (own := [("kind", 2)]) (g := gName 2)  (by rfl) sc_Rule_init.nd (pi_tup (pv 1)) (blkOk_by (own := [("kind", 2)]) (N := ["self", "kinds", "kind"]) (sc := defScope s_Rule_init) (by decide +kernel)) (fun _ _ _ _ _ => (pg_name (i := 2) sc_Rule_init.nd rfl (Or.inl rfl))) (fun _ _ _ _ _ => pts_nil) (fun _ _ _ _ _ => (pe_call GIk hrIk rfl mIk FIk.kp bIk .nil pass0 (pa_cons (pv 2) pa_nil)))) pa_nil))))))) (pss_one (ps_raise rfl (takes_of rfl rfl rfl rfl) (pmk_oex XB.c XB.iC XB.tI XB.ok hrX XB.b .nil pass0 rfl XB.mg_ (pa_cons pe_str pa_nil)))) pss_nil)
      (pss_cons (ps_if (pt_cmpR op_lt (pe_callB call_len (by rfl) g.len PySem.boot_len (pa_cons (pe_call GDi hrDi rfl mDi FDi.kp bDi .nil pass0 (pa_cons (pv 1) pa_nil)) pa_nil)) (pe_callB call_len (by rfl) g.len PySem.boot_len (pa_cons (pv 1) pa_nil)) (nomark _)) (pss_one (ps_raise rfl (takes_of rfl rfl rfl rfl) (pmk_oex XB.c XB.iC XB.tI XB.ok hrX XB.b .nil pass0 rfl XB.mg_ (pa_cons pe_str pa_nil)))) pss_nil)
      (pss_one (ps_fld (pv 0) (pe_callTy call_tuple_of (by rfl) g.tuple (by decide +kernel) (pa_cons (pv 1) pa_nil)) rfl)))), ?_⟩
  have bad : ∀ {H1 : Hp}, Same H H1 → kindsV ks = false → _ := fun {H1} s1 hb => xmk (C := B) (fld := "what") (y := .str "kinds") (H1 := H1) (Q := E) fun dd hdd => by
    rcases k with ⟨h1, _⟩ | ⟨_, k⟩
    · rw [hb] at h1; cases h1
    · exact k H1 dd (fun b o e _ => s1 b o e) hdd
  refine ⟨_, rfl, _, _, rfl, .inr ⟨_, SqT.of hkt, rfl⟩, _, _, rfl, rfl, _, rfl, ?_⟩
  by_cases c1 : 1 ≤ ks.length
  case neg =>
    rw [decide_eq_false (show ¬ (1 : Int) ≤ (ks.length : Int) by omega)]
    refine iteF ⟨_, rfl, iteT ?_⟩
    exact bad (Same.refl H) (by unfold kindsV; rw [decide_eq_false c1]; rfl)
  rw [decide_eq_true (show (1 : Int) ≤ (ks.length : Int) by omega)]
  refine iteT ⟨_, _, rfl, rfl, _, rfl, ?_⟩
  by_cases c2 : ks.length ≤ 3
  case neg =>
    rw [decide_eq_false (show ¬ (ks.length : Int) ≤ 3 by omega)]
    refine iteT ?_
    exact bad (Same.refl H) (by unfold kindsV; rw [decide_eq_false c2, Bool.and_false]; rfl)
  rw [decide_eq_true (show (ks.length : Int) ≤ 3 by omega)]
  refine iteF ?_
  refine ⟨_, rfl, kt, rfl, ⟨_, SqT.of hkt⟩, fun D hD => lc_valsT (ys := ks.map fun v => V.bl (kndV v)) (by rw [List.length_map]) hkt hD (by omega) (fun _ => rfl) (fun i a b ha hb H' s' Qe qk => ?_) fun H1 s1 hD1 => ?_⟩
  · rw [List.getElem?_map, ha] at hb
    obtain rfl := Option.some.inj hb
    exact ⟨_, rfl, nil_it <| knd_ask ((hV a (List.mem_of_getElem? ha)).same s') fun H2 s2 => qk H2 s2⟩
  refine ⟨D, ks.map kndV, rfl, SqL.of (by rw [hD1, List.map_map]; rfl), ?_⟩
  have eall : (ks.map kndV).all id = ks.all kndV := by rw [List.all_map]; rfl
  rw [eall]
  cases c3 : ks.all kndV with
  | false =>
    refine ⟨_, rfl, iteT ?_⟩
    exact bad s1 (by unfold kindsV; rw [c3, Bool.false_and, Bool.and_false])
  | true =>
    refine ⟨_, rfl, iteF ?_⟩
    obtain ⟨zs, rfl⟩ := knd_strs c3
    rw [List.length_map] at c1 c2
    refine ⟨_, rfl, kt, zs, rfl, SqT.of (s1 _ _ hkt), by omega, fun p H2 ws hp s2 h2 ha hm hle => ?_⟩
    have s12 := s1.trans s2
    have hkt2 := s12 _ _ hkt
    refine ⟨_, _, rfl, .inl ⟨_, SqL.of h2, rfl⟩, _, rfl, _, _, rfl, .inr ⟨_, SqT.of hkt2, rfl⟩, _, _, rfl, rfl, _, rfl, ?_⟩
    rw [List.length_map, List.length_map]
    by_cases c4 : zs.Nodup
    · have hlen : ws.length = zs.length := Nat.le_antisymm hle (nd_len c4 fun z hz => (hm z).mpr hz)
      rw [hlen, decide_eq_false (Int.lt_irrefl _)]
      refine iteF ?_
      rcases k with ⟨_, k⟩ | ⟨hb, _⟩
      · refine ⟨_, rfl, kt, _, rfl, .inr ⟨SqT.of hkt2, _, rfl, x, C, dx, fs, rfl, s12 _ _ hx, R.cl, R.nk, by omega, ?_⟩⟩
        exact k _ upd_same fun b o e n => by rw [upd_ne n]; exact s12 _ _ e
      · unfold kindsV at hb
        rw [List.length_map, decide_eq_true c1, decide_eq_true c2, c3, decide_eq_true (str_inj_nodup.mpr c4)] at hb
        cases hb
    · have hlt : ws.length < zs.length := by
        rcases Nat.lt_or_ge ws.length zs.length with q | q
        · exact q
        · exact absurd (nd_of_len ha.nodup hm q) c4
      rw [decide_eq_true (show (ws.length : Int) < (zs.length : Int) by omega)]
      refine iteT ?_
      exact bad s12 (by unfold kindsV; rw [decide_eq_false (fun q => c4 (str_inj_nodup.mp q)), Bool.and_false, Bool.and_false])
theorem ok_ruleX {B C f fIk fDt fX : Addr} {fdIk fdDt fdX : FuncData} {oc od kV doc pm an cdv ct osl} (g : Bi mg) (R : RC K C) (FIk : Def P w K mg base CX0 2 "is_kind" ["thing"] (spIsKind K) fIk fdIk) (FDt : Def P w K mg base CX0 1 "distinct" ["words"] (spDistinctT K) fDt fdDt) (XB : XDef P w K mg base "BadRule" B fX "what" ["self", "what"] fdX)
    (lk : K.lookup f = some ⟨oc, od, .func (PySem.W.fnOf "__init__" "Rule.__init__" (defArgs s_Rule_init) (defBody s_Rule_init) (defScope s_Rule_init) .none kV doc pm an cdv ct), osl⟩) (hcd : PySem.W.codeIn K cdv "Rule.__init__" = true) :
    FnR P w K mg base (L2.CX P w) 3 f (spRuleX B C) := by
  have G := StX.fn_star (P := P) (w := w) (mg := mg) (base := base) (CX := L2.CX P w) (k := 2) (ps := ["self"]) (pv := "kinds") (sp := spRuleBX B C) lk hcd sc_Rule_init StX.cxUp
    (fun us rest hl => match us, rest, hl with | [a], [], _ => rfl | [a], r :: rs, _ => rfl)
    (fun A outer s H vs Q E hr h => rule_bodyX (P := P) (w := w) (mg := mg) (base := base) (outer := outer) (s := s) g R FIk FDt XB hr h)
  refine G.imp fun vs H Q E h => ?_
  obtain ⟨x, dx, fs, ks, rfl, hx, hfs, hln, hV, k⟩ := h
  refine ⟨[.ref x], ks, rfl, rfl, Nat.le_trans hln (by decide), fun p hp => ?_⟩
  have s1 : Same H (upd H p (.tup ks)) := Same.new hp
  refine ⟨x, p, dx, fs, ks, rfl, s1 _ _ hx, hfs, upd_same, hln, fun v hv => (hV v hv).same s1, ?_⟩
  rcases k with ⟨hk, k⟩ | ⟨hk, k⟩
  · exact .inl ⟨hk, fun H' h1 h2 => k p H' hp (h2 _ _ upd_same (ne_of_none hx hp).symm) h1 fun b o e n => h2 b o (s1 _ _ e) n⟩
  · exact .inr ⟨hk, fun H' dd h1 h2 => k H' dd (fun b o e n => h1 b o (s1 _ _ e) n) h2⟩
end
end Cs

set_option Elab.async false
set_option linter.all false
set_option maxRecDepth 100000
set_option maxHeartbeats 4000000
set_option pp.maxSteps 600
/-! The four classes made of any values, or BadRule raised. -/
namespace Cs
open PySem L2 NdefX
theorem len2 {l : List V} (h : l.length = 2) : ∃ a b, l = [a, b] := by
  match l, h with
  | [a, b], _ => exact ⟨a, b, rfl⟩
def okBV : List V → Bool
  | [v] => bndV v
  | _ => false
def okLV : List V → Bool
  | [v, u] => bndV v && bndV u
  | _ => false
def leV : V → V → Bool
  | .int a, .int b => decide (a ≤ b)
  | _, _ => false
def okWV : List V → Bool
  | [v, u] => (bndV v && bndV u) && leV v u
  | _ => false
def FAM (ns : List V) (fs : List (Str × V)) (kt : Addr) : List (Str × V) := putF "most" (ns.getD 0 .non) (putF "least" (.int 0) (putF "kinds" (.ref kt) fs))
def FAL1 (ns : List V) (fs : List (Str × V)) (kt : Addr) : List (Str × V) := putF "least" (ns.getD 0 .non) (putF "kinds" (.ref kt) (putF "most" .non fs))
def FAL2 (ns : List V) (fs : List (Str × V)) (kt : Addr) : List (Str × V) := putF "least" (ns.getD 0 .non) (FAM [ns.getD 1 .non] (putF "most" .non fs) kt)
def FEx (ns : List V) (fs : List (Str × V)) (kt : Addr) : List (Str × V) := FAL2 [ns.getD 0 .non, ns.getD 0 .non] fs kt
/-- bad numbers, or good ones and the kinds' end -/
def EndN (B C : Addr) (H : Hp) (Q : VK) (E : XK) (x dx : Addr) (ok : Bool) (ks : List V) (F : Addr → List (Str × V)) : Prop := (ok = false ∧ BadR B H x "number" E) ∨ (ok = true ∧ EndK B C H Q E x dx ks F)
def spIX (bd n : Nat) (B C : Addr) (ok : List V → Bool) (F : List V → List (Str × V) → Addr → List (Str × V)) : Sp := fun vs H Q E => ∃ (x dx : Addr) (ns : List V) (fs : List (Str × V)) (ks : List V), vs = .ref x :: (ns ++ ks) ∧ ns.length = n ∧ H x = some (.ins C dx fs) ∧ fs.length < bd ∧ ks.length ≤ 90 ∧ (∀ v ∈ ns, VO H v) ∧ (∀ v ∈ ks, VO H v) ∧ EndN B C H Q E x dx (ok ns) ks (F ns fs)
/-- .. behind the binding: the named numbers, and a tuple of the rest -/
def spJX (bd n j : Nat) (B C : Addr) (ok : List V → Bool) (F : List V → List (Str × V) → Addr → List (Str × V)) : Sp := fun vs H Q E => ∃ (x kt dx : Addr) (n1 n2 : List V) (fs : List (Str × V)) (ks : List V), vs = (.ref x :: n1) ++ [.ref kt] ∧ n1.length = j ∧ (n1 ++ n2).length = n ∧ H x = some (.ins C dx fs) ∧ fs.length < bd ∧ H kt = some (.tup (n2 ++ ks)) ∧ ks.length ≤ 90 ∧ (∀ v ∈ n1 ++ n2, VO H v) ∧ (∀ v ∈ ks, VO H v) ∧ EndN B C H Q E x dx (ok (n1 ++ n2)) ks (F (n1 ++ n2) fs)
theorem endN_up {B C : Addr} {H H1 : Hp} {Q : VK} {E : XK} {x dx : Addr} {ok : Bool} {ks : List V} {F : Addr → List (Str × V)} (s : Same H H1) (h : EndN B C H Q E x dx ok ks F) : EndN B C H1 Q E x dx ok ks F := by
  rcases h with ⟨a, k⟩ | ⟨a, ⟨b, k⟩ | ⟨b, k⟩⟩
  · exact .inl ⟨a, fun H' dd h1 h2 => k H' dd (fun b o e n => h1 b o (s _ _ e) n) h2⟩
  · exact .inr ⟨a, .inl ⟨b, fun kt H' h1 h2 h3 h4 => k kt H' (s.free h1) h2 h3 fun b o e n => h4 b o (s _ _ e) n⟩⟩
  · exact .inr ⟨a, .inr ⟨b, fun H' dd h1 h2 => k H' dd (fun b o e n => h1 b o (s _ _ e) n) h2⟩⟩
theorem spIX_of {P : Program} {w : World} {K : PySem.W.Frag} {mg : Str → Option Value} {base : Heap} {k : Nat} {f B C : Addr} {ok : List V → Bool} {F : List V → List (Str × V) → Addr → List (Str × V)} {n j bd : Nat} (hj : j ≤ n) (hn : n ≤ 5)
    (G : FnR P w K mg base (L2.CX P w) k f (fun vs H Q E => ∃ ws rest, vs = ws ++ rest ∧ ws.length = j + 1 ∧ rest.length ≤ sizeLine ∧ ∀ p, H p = Option.none → spJX bd n j B C ok F (ws ++ [V.ref p]) (upd H p (.tup rest)) Q E)) : FnR P w K mg base (L2.CX P w) k f (spIX bd n B C ok F) := by
  refine G.imp fun vs H Q E h => ?_
  obtain ⟨x, dx, ns, fs, ks, rfl, hl, hx, hfs, hks, hv, hw, k⟩ := h
  have en : ns.take j ++ ns.drop j = ns := List.take_append_drop j ns
  refine ⟨.ref x :: ns.take j, ns.drop j ++ ks, ?_, ?_, ?_, fun p hp => ?_⟩
  · rw [List.cons_append, ← List.append_assoc, en]
  · rw [List.length_cons, List.length_take]
    omega
  · rw [List.length_append, List.length_drop]
    exact Nat.le_trans (show ns.length - j + ks.length ≤ 100 by omega) (by decide)
  · have s1 : Same H (upd H p (.tup (ns.drop j ++ ks))) := Same.new hp
    refine ⟨x, p, dx, ns.take j, ns.drop j, fs, ks, rfl, by rw [List.length_take]; omega, by rw [en]; exact hl, s1 _ _ hx, hfs, upd_same, hks, fun v m => ?_, fun v m => (hw v m).same s1, ?_⟩
    · rw [en] at m
      exact (hv v m).same s1
    · rw [en]
      exact endN_up s1 k
section
variable {P : Program} {w : World} {K : PySem.W.Frag} {mg : Str → Option Value} {base : Heap} {kV doc pm ct : Value} {an : Option Addr} {f fIb fR B C D cda cc fX : Addr} {fdIb fdX : FuncData}
theorem ok_atmostX (g : Bi mg) (R : RC K C) (FIb : Def P w K mg base CX0 2 "is_bound" ["thing"] (spIsBound K) fIb fdIb) (XB : XDef P w K mg base "BadRule" B fX "what" ["self", "what"] fdX) (Fs : FunS K "__init__" "AtMost.__init__" s_AtMost_init f cda cc D kV doc pm ct an) (SG : SupG P K mg) (SD : SupD P K cda D)
    (S : Sup K C D "__init__" fR) (FR : FnR P w K mg base (L2.CX P w) 3 fR (spRuleX B C)) : FnR P w K mg base (L2.CX P w) 4 f (spIX 890 1 B C okBV FAM) := by
  obtain ⟨GIb, mIb, _, bIb⟩ := id FIb
  refine spIX_of (j := 1) (by decide) (by decide) (fn_supS (ps := ["self", "most"]) (pv := "kinds") Fs sc_AtMost_init StX.cxUp (fun us rest hl => match us, rest, hl with | [a, b], [], _ => rfl | [a, b], r :: rs, _ => rfl) fun A outer s H vs Q E hr h => ?_)
  obtain ⟨x, kt, dx, n1, n2, fs, ks, rfl, hl1, hl, hx, hfs, hkt, hks, hv, hw, k⟩ := h
  have TS := supT_mk (CX := L2.CX P w) (w := w) (base := base) (N := ["self", "most", "kinds", "__class__"]) (A := A) (outer := outer) (s := s) (H := H) (E := E) (ar := "self") Fs SG SD rfl rfl rfl ⟨_, rfl, rfl⟩
  have hrIb : Room 2 _ := hr.mono (by decide)
  have hrX : Room 2 _ := hr.mono (by decide)
  have hrS : Room 3 _ := hr
  obtain ⟨m, rfl⟩ : ∃ m, n1 = [m] := List.length_eq_one_iff.mp hl1
  obtain rfl : n2 = [] := List.eq_nil_of_length_eq_zero (by rw [List.length_append, hl1] at hl; omega)
  have hkt : H kt = some (.tup ks) := hkt
  refine ⟨_, (pssa_cons (PSA.of (ps_if (pt_not (pt_val (pe_call GIb hrIb rfl mIb FIb.kp bIb .nil pass0 (pa_cons (pv 1) pa_nil)))) (pss_one (ps_raise rfl (takes_of rfl rfl rfl rfl) (pmk_oex XB.c XB.iC XB.tI XB.ok hrX XB.b .nil pass0 rfl XB.mg_ (pa_cons pe_str pa_nil)))) pss_nil))
      (pssa_cons (psa_expr (pea_sup1 (i := 0) TS rfl hrS (passes_call (takes_of rfl rfl rfl rfl) fun _ _ _ _ h => h) (pv 2)))
      (pssa_cons (PSA.of (ps_fld (pv 0) pe_int rfl))
      (pssa_one (PSA.of (ps_fld (pv 0) (pv 1) rfl)))))), ?_⟩
  refine ⟨_, rfl, nil_it <| bnd_ask (hv m List.mem_cons_self) ?_⟩
  rcases k with ⟨hb, k⟩ | ⟨hb, k⟩
  · rw [show bndV m = false from hb]
    exact ⟨_, rfl, iteT (xmk fun dd hdd => k H dd (fun b o e _ => e) hdd)⟩
  rw [show bndV m = true from hb]
  refine ⟨_, rfl, iteF ?_⟩
  refine ⟨x, spRuleX B C, ⟨C, dx, fs, fR, rfl, hx, S, FR⟩, _, rfl, kt, _, rfl, .inl (SqT.of hkt), ?_⟩
  refine ⟨x, dx, fs, ks, rfl, hx, by omega, by omega, hw, ?_⟩
  rcases k with ⟨hk, k⟩ | ⟨hk, k⟩
  · refine .inl ⟨hk, fun kt2 H1 hk1 hk2 h1 kp1 => ?_⟩
    have nxk : x ≠ kt2 := ne_of_none hx hk1
    have h1 : H1 x = some (.ins C dx (putF "kinds" (.ref kt2) fs)) := h1
    have l1 := putF_len "kinds" (.ref kt2) fs
    refine ⟨_, rfl, x, C, dx, _, rfl, h1, R.cl, R.nl, by omega, ?_⟩
    have l2 := putF_len "least" (.int 0) (putF "kinds" (.ref kt2) fs)
    refine ⟨_, rfl, _, rfl, x, C, dx, _, rfl, upd_same, R.cl, R.nm, by omega, ?_⟩
    refine k kt2 _ hk1 (by rw [upd_ne nxk.symm, upd_ne nxk.symm]; exact hk2) upd_same fun b o e n => ?_
    rw [upd_ne n, upd_ne n]
    exact kp1 b o e n
  · exact .inr ⟨hk, k⟩
theorem ok_atleast1X (g : Bi mg) (R : RC K C) (FIb : Def P w K mg base CX0 2 "is_bound" ["thing"] (spIsBound K) fIb fdIb) (XB : XDef P w K mg base "BadRule" B fX "what" ["self", "what"] fdX) (Fs : FunS K "__init__" "AtLeast.__init__" s_AtLeast_init f cda cc D kV doc pm ct an) (SG : SupG P K mg) (SD : SupD P K cda D)
    (S : Sup K C D "__init__" fR) (FR : FnR P w K mg base (L2.CX P w) 3 fR (spRuleX B C)) : FnR P w K mg base (L2.CX P w) 4 f (spIX 890 1 B C okBV FAL1) := by
  obtain ⟨GIb, mIb, _, bIb⟩ := id FIb
  refine spIX_of (j := 1) (by decide) (by decide) (fn_supS (ps := ["self", "least"]) (pv := "rest") Fs sc_AtLeast_init StX.cxUp (fun us rest hl => match us, rest, hl with | [a, b], [], _ => rfl | [a, b], r :: rs, _ => rfl) fun A outer s H vs Q E hr h => ?_)
  obtain ⟨x, kt, dx, n1, n2, fs, ks, rfl, hl1, hl, hx, hfs, hkt, hks, hv, hw, k⟩ := h
  have TS := supT_mk (CX := L2.CX P w) (w := w) (base := base) (N := ["self", "least", "rest", "__class__"]) (A := A) (outer := outer) (s := s) (H := H) (E := E) (ar := "self") Fs SG SD rfl rfl rfl ⟨_, rfl, rfl⟩
  have hrIb : Room 2 _ := hr.mono (by decide)
  have hrX : Room 2 _ := hr.mono (by decide)
  have hrS : Room 3 _ := hr
  obtain ⟨m, rfl⟩ : ∃ m, n1 = [m] := List.length_eq_one_iff.mp hl1
  obtain rfl : n2 = [] := List.eq_nil_of_length_eq_zero (by rw [List.length_append, hl1] at hl; omega)
  have hkt : H kt = some (.tup ks) := hkt
  refine ⟨_, (pssa_cons (PSA.of (ps_if (pt_not (pt_val (pe_call GIb hrIb rfl mIb FIb.kp bIb .nil pass0 (pa_cons (pv 1) pa_nil)))) (pss_one (ps_raise rfl (takes_of rfl rfl rfl rfl) (pmk_oex XB.c XB.iC XB.tI XB.ok hrX XB.b .nil pass0 rfl XB.mg_ (pa_cons pe_str pa_nil)))) pss_nil))
      (pssa_cons (PSA.of (ps_fld (pv 0) pe_non rfl))
      (pssa_cons (psa_expr (pea_sup1 (i := 0) TS rfl hrS (passes_call (takes_of rfl rfl rfl rfl) fun _ _ _ _ h => h) (pv 2)))
      (pssa_one (PSA.of (ps_fld (pv 0) (pv 1) rfl)))))), ?_⟩
  refine ⟨_, rfl, nil_it <| bnd_ask (hv m List.mem_cons_self) ?_⟩
  rcases k with ⟨hb, k⟩ | ⟨hb, k⟩
  · rw [show bndV m = false from hb]
    exact ⟨_, rfl, iteT (xmk fun dd hdd => k H dd (fun b o e _ => e) hdd)⟩
  rw [show bndV m = true from hb]
  refine ⟨_, rfl, iteF ?_⟩
  have nxt : x ≠ kt := ne_of hx hkt (by intro z; cases z)
  refine ⟨_, rfl, x, C, dx, fs, rfl, hx, R.cl, R.nm, by omega, ?_⟩
  have l0 := putF_len "most" .non fs
  have up0 : ∀ b o, H b = some o → b ≠ x → (upd H x (.ins C dx (putF "most" .non fs))) b = some o := fun b o e n => by rw [upd_ne n]; exact e
  refine ⟨x, spRuleX B C, ⟨C, dx, _, fR, rfl, upd_same, S, FR⟩, _, rfl, kt, _, rfl, .inl (SqT.of (up0 _ _ hkt nxt.symm)), ?_⟩
  refine ⟨x, dx, _, ks, rfl, upd_same, by omega, by omega, fun v m => (hw v m).up hx up0, ?_⟩
  rcases k with ⟨hk, k⟩ | ⟨hk, k⟩
  · refine .inl ⟨hk, fun kt2 H1 hk1 hk2 h1 kp1 => ?_⟩
    have nxk : x ≠ kt2 := ne_of_none upd_same hk1
    have hk0 : H kt2 = none := by rw [upd_ne nxk.symm] at hk1; exact hk1
    have h1 : H1 x = some (.ins C dx (putF "kinds" (.ref kt2) (putF "most" .non fs))) := h1
    have l1 := putF_len "kinds" (.ref kt2) (putF "most" .non fs)
    refine ⟨_, rfl, _, rfl, x, C, dx, _, rfl, h1, R.cl, R.nl, by omega, ?_⟩
    refine k kt2 _ hk0 (by rw [upd_ne nxk.symm]; exact hk2) upd_same fun b o e n => ?_
    rw [upd_ne n]
    exact kp1 b o (up0 b o e n) n
  · exact .inr ⟨hk, fun H' dd h1 h2 => k H' dd (fun b o e n => h1 b o (up0 b o e n) n) h2⟩
theorem ok_atleast2X (g : Bi mg) (R : RC K C) (FIb : Def P w K mg base CX0 2 "is_bound" ["thing"] (spIsBound K) fIb fdIb) (XB : XDef P w K mg base "BadRule" B fX "what" ["self", "what"] fdX) (Fs : FunS K "__init__" "AtLeast.__init__" s_AtLeast_init f cda cc D kV doc pm ct an) (SG : SupG P K mg) (SD : SupD P K cda D)
    (S : Sup K C D "__init__" fR) (FR : FnR P w K mg base (L2.CX P w) 4 fR (spIX 890 1 B C okBV FAM)) : FnR P w K mg base (L2.CX P w) 5 f (spIX 880 2 B C okLV FAL2) := by
  obtain ⟨GIb, mIb, _, bIb⟩ := id FIb
  refine spIX_of (j := 1) (by decide) (by decide) (fn_supS (ps := ["self", "least"]) (pv := "rest") Fs sc_AtLeast_init StX.cxUp (fun us rest hl => match us, rest, hl with | [a, b], [], _ => rfl | [a, b], r :: rs, _ => rfl) fun A outer s H vs Q E hr h => ?_)
  obtain ⟨x, kt, dx, n1, n2, fs, ks, rfl, hl1, hl, hx, hfs, hkt, hks, hv, hw, k⟩ := h
  have TS := supT_mk (CX := L2.CX P w) (w := w) (base := base) (N := ["self", "least", "rest", "__class__"]) (A := A) (outer := outer) (s := s) (H := H) (E := E) (ar := "self") Fs SG SD rfl rfl rfl ⟨_, rfl, rfl⟩
  have hrIb : Room 2 _ := hr.mono (by decide)
  have hrX : Room 2 _ := hr.mono (by decide)
  have hrS : Room 4 _ := hr
  obtain ⟨l, rfl⟩ : ∃ m, n1 = [m] := List.length_eq_one_iff.mp hl1
  obtain ⟨m, rfl⟩ : ∃ m, n2 = [m] := List.length_eq_one_iff.mp (by rw [List.length_append, hl1] at hl; omega)
  have hkt : H kt = some (.tup (m :: ks)) := hkt
  refine ⟨_, (pssa_cons (PSA.of (ps_if (pt_not (pt_val (pe_call GIb hrIb rfl mIb FIb.kp bIb .nil pass0 (pa_cons (pv 1) pa_nil)))) (pss_one (ps_raise rfl (takes_of rfl rfl rfl rfl) (pmk_oex XB.c XB.iC XB.tI XB.ok hrX XB.b .nil pass0 rfl XB.mg_ (pa_cons pe_str pa_nil)))) pss_nil))
      (pssa_cons (PSA.of (ps_fld (pv 0) pe_non rfl))
      (pssa_cons (psa_expr (pea_sup1 (i := 0) TS rfl hrS (passes_call (takes_of rfl rfl rfl rfl) fun _ _ _ _ h => h) (pv 2)))
      (pssa_one (PSA.of (ps_fld (pv 0) (pv 1) rfl)))))), ?_⟩
  refine ⟨_, rfl, nil_it <| bnd_ask (hv l List.mem_cons_self) ?_⟩
  have ek : okLV ([l] ++ [m]) = (bndV l && bndV m) := rfl
  rw [ek] at k
  cases hb : bndV l with
  | false =>
    rw [hb, Bool.false_and] at k
    rcases k with ⟨_, k⟩ | ⟨h, _⟩
    · exact ⟨_, rfl, iteT (xmk fun dd hdd => k H dd (fun b o e _ => e) hdd)⟩
    · cases h
  | true =>
  rw [hb, Bool.true_and] at k
  refine ⟨_, rfl, iteF ?_⟩
  have nxt : x ≠ kt := ne_of hx hkt (by intro z; cases z)
  refine ⟨_, rfl, x, C, dx, fs, rfl, hx, R.cl, R.nm, by omega, ?_⟩
  have l0 := putF_len "most" .non fs
  have up0 : ∀ b o, H b = some o → b ≠ x → (upd H x (.ins C dx (putF "most" .non fs))) b = some o := fun b o e n => by rw [upd_ne n]; exact e
  refine ⟨x, spIX 890 1 B C okBV FAM, ⟨C, dx, _, fR, rfl, upd_same, S, FR⟩, _, rfl, kt, _, rfl, .inl (SqT.of (up0 _ _ hkt nxt.symm)), ?_⟩
  refine ⟨x, dx, [m], _, ks, rfl, rfl, upd_same, by omega, hks, fun v hm => (hv v (List.mem_append_right _ hm)).up hx up0, fun v m => (hw v m).up hx up0, ?_⟩
  rcases k with ⟨hk, k⟩ | ⟨hk, ⟨hk2, k⟩ | ⟨hk2, k⟩⟩
  · exact .inl ⟨hk, fun H' dd h1 h2 => k H' dd (fun b o e n => h1 b o (up0 b o e n) n) h2⟩
  · refine .inr ⟨hk, .inl ⟨hk2, fun kt2 H1 hk1 hk2 h1 kp1 => ?_⟩⟩
    have nxk : x ≠ kt2 := ne_of_none upd_same hk1
    have hk0 : H kt2 = none := by rw [upd_ne nxk.symm] at hk1; exact hk1
    have l1 := putF_len "kinds" (.ref kt2) (putF "most" .non fs)
    have l2 := putF_len "least" (.int 0) (putF "kinds" (.ref kt2) (putF "most" .non fs))
    have l3 := putF_len "most" m (putF "least" (.int 0) (putF "kinds" (.ref kt2) (putF "most" .non fs)))
    refine ⟨_, rfl, _, rfl, x, C, dx, _, rfl, h1, R.cl, R.nl, Nat.lt_of_le_of_lt l3 (by omega), ?_⟩
    refine k kt2 _ hk0 (by rw [upd_ne nxk.symm]; exact hk2) upd_same fun b o e n => ?_
    rw [upd_ne n]
    exact kp1 b o (up0 b o e n) n
  · exact .inr ⟨hk, .inr ⟨hk2, fun H' dd h1 h2 => k H' dd (fun b o e n => h1 b o (up0 b o e n) n) h2⟩⟩
theorem ok_betweenX (g : Bi mg) (R : RC K C) (FIb : Def P w K mg base CX0 2 "is_bound" ["thing"] (spIsBound K) fIb fdIb) (XB : XDef P w K mg base "BadRule" B fX "what" ["self", "what"] fdX) (Fs : FunS K "__init__" "Between.__init__" s_Between_init f cda cc D kV doc pm ct an) (SG : SupG P K mg) (SD : SupD P K cda D)
    (S : Sup K C D "__init__" fR) (FR : FnR P w K mg base (L2.CX P w) 5 fR (spIX 880 2 B C okLV FAL2)) : FnR P w K mg base (L2.CX P w) 6 f (spIX 880 2 B C okWV FAL2) := by
  obtain ⟨GIb, mIb, _, bIb⟩ := id FIb
  refine spIX_of (j := 2) (by decide) (by decide) (fn_supS (ps := ["self", "least", "most"]) (pv := "kinds") Fs sc_Between_init StX.cxUp (fun us rest hl => match us, rest, hl with | [a, b, c], [], _ => rfl | [a, b, c], r :: rs, _ => rfl) fun A outer s H vs Q E hr h => ?_)
  obtain ⟨x, kt, dx, n1, n2, fs, ks, rfl, hl1, hl, hx, hfs, hkt, hks, hv, hw, k⟩ := h
  have TS := supT_mk (CX := L2.CX P w) (w := w) (base := base) (N := ["self", "least", "most", "kinds", "__class__"]) (A := A) (outer := outer) (s := s) (H := H) (E := E) (ar := "self") Fs SG SD rfl rfl rfl ⟨_, rfl, rfl⟩
  have hrIb : Room 2 _ := hr.mono (by decide)
  have hrX : Room 2 _ := hr.mono (by decide)
  have hrS : Room 5 _ := hr
  obtain ⟨l, m, rfl⟩ : ∃ l m, n1 = [l, m] := len2 hl1
  obtain rfl : n2 = [] := List.eq_nil_of_length_eq_zero (by rw [List.length_append, hl1] at hl; omega)
  have hkt : H kt = some (.tup ks) := hkt
  have vl := hv l List.mem_cons_self
  have vm := hv m (List.mem_cons_of_mem _ List.mem_cons_self)
  refine ⟨_, (pssa_cons (PSA.of (ps_if (PW.pt (pw_or (pt_not (pt_val (pe_call GIb hrIb rfl mIb FIb.kp bIb .nil pass0 (pa_cons (pv 1) pa_nil)))) (pw_or (pt_not (pt_val (pe_call GIb hrIb rfl mIb FIb.kp bIb .nil pass0 (pa_cons (pv 2) pa_nil)))) (pw_or1 (pt_cmpR op_gt (pv 1) (pv 2) (nomark _)))))) (pss_one (ps_raise rfl (takes_of rfl rfl rfl rfl) (pmk_oex XB.c XB.iC XB.tI XB.ok hrX XB.b .nil pass0 rfl XB.mg_ (pa_cons pe_str pa_nil)))) pss_nil))
      (pssa_one (psa_expr (pea_sup2 (i := 0) TS rfl hrS (passes_call (takes_of rfl rfl rfl rfl) fun _ _ _ _ h => h) (pa_cons (pv 1) (pa_cons (pv 2) (StX.pa_star (pv 3) pa_nil))))))), ?_⟩
  have ek : okWV ([l, m] ++ []) = ((bndV l && bndV m) && leV l m) := rfl
  rw [ek] at k
  refine ⟨_, rfl, nil_it <| bnd_ask vl ?_⟩
  cases hb : bndV l with
  | false =>
    rw [hb, Bool.false_and, Bool.false_and] at k
    rcases k with ⟨_, k⟩ | ⟨h, _⟩
    · exact ⟨_, rfl, iteT (xmk fun dd hdd => k H dd (fun b o e _ => e) hdd)⟩
    · cases h
  | true =>
  rw [hb, Bool.true_and] at k
  refine ⟨_, rfl, iteF ⟨_, rfl, nil_it <| bnd_ask vm ?_⟩⟩
  cases hb2 : bndV m with
  | false =>
    rw [hb2, Bool.false_and] at k
    rcases k with ⟨_, k⟩ | ⟨h, _⟩
    · exact ⟨_, rfl, iteT (xmk fun dd hdd => k H dd (fun b o e _ => e) hdd)⟩
    · cases h
  | true =>
  rw [hb2, Bool.true_and] at k
  obtain ⟨l, rfl, hl⟩ := bndV_int hb
  obtain ⟨m, rfl, hm⟩ := bndV_int hb2
  refine ⟨_, rfl, iteF ⟨_, rfl, _, rfl, _, _, rfl, rfl, _, rfl, ?_⟩⟩
  have ek : leV (.int l) (.int m) = decide (l ≤ m) := rfl
  rw [ek] at k
  by_cases c : m < l
  · rw [decide_eq_true c]
    rw [decide_eq_false (show ¬ l ≤ m by omega)] at k
    rcases k with ⟨_, k⟩ | ⟨h, _⟩
    · exact iteT (xmk fun dd hdd => k H dd (fun b o e _ => e) hdd)
    · cases h
  rw [decide_eq_false c]
  rw [decide_eq_true (show l ≤ m by omega)] at k
  refine iteF ?_
  refine ⟨x, spIX 880 2 B C okLV FAL2, ⟨C, dx, fs, fR, rfl, hx, S, FR⟩, _, rfl, _, rfl, _, rfl, kt, _, rfl, .inl (SqT.of hkt), ?_⟩
  refine ⟨x, dx, [.int l, .int m], fs, ks, ?_, rfl, hx, hfs, hks, hv, hw, ?_⟩
  · simp
  · rcases k with ⟨h, _⟩ | ⟨_, k⟩
    · cases h
    · exact .inr ⟨by show (bndV (.int l) && bndV (.int m)) = true; rw [hb, hb2]; rfl, k⟩
theorem ok_exactlyX (g : Bi mg) (R : RC K C) (Fs : FunS K "__init__" "Exactly.__init__" s_Exactly_init f cda cc D kV doc pm ct an) (SG : SupG P K mg) (SD : SupD P K cda D)
    (S : Sup K C D "__init__" fR) (FR : FnR P w K mg base (L2.CX P w) 6 fR (spIX 880 2 B C okWV FAL2)) : FnR P w K mg base (L2.CX P w) 7 f (spIX 880 1 B C (fun ns => okWV [ns.getD 0 .non, ns.getD 0 .non]) FEx) := by
  refine spIX_of (j := 1) (by decide) (by decide) (fn_supS (ps := ["self", "number"]) (pv := "kinds") Fs sc_Exactly_init StX.cxUp (fun us rest hl => match us, rest, hl with | [a, b], [], _ => rfl | [a, b], r :: rs, _ => rfl) fun A outer s H vs Q E hr h => ?_)
  obtain ⟨x, kt, dx, n1, n2, fs, ks, rfl, hl1, hl, hx, hfs, hkt, hks, hv, hw, k⟩ := h
  have TS := supT_mk (CX := L2.CX P w) (w := w) (base := base) (N := ["self", "number", "kinds", "__class__"]) (A := A) (outer := outer) (s := s) (H := H) (E := E) (ar := "self") Fs SG SD rfl rfl rfl ⟨_, rfl, rfl⟩
  have hrS : Room 6 _ := hr
  obtain ⟨m, rfl⟩ : ∃ m, n1 = [m] := List.length_eq_one_iff.mp hl1
  obtain rfl : n2 = [] := List.eq_nil_of_length_eq_zero (by rw [List.length_append, hl1] at hl; omega)
  have hkt : H kt = some (.tup ks) := hkt
  have vm := hv m List.mem_cons_self
  refine ⟨_, (pssa_one (psa_expr (pea_sup2 (i := 0) TS rfl hrS (passes_call (takes_of rfl rfl rfl rfl) fun _ _ _ _ h => h) (pa_cons (pv 1) (pa_cons (pv 1) (StX.pa_star (pv 2) pa_nil)))))), ?_⟩
  refine ⟨x, spIX 880 2 B C okWV FAL2, ⟨C, dx, fs, fR, rfl, hx, S, FR⟩, _, rfl, _, rfl, _, rfl, kt, _, rfl, .inl (SqT.of hkt), ?_⟩
  refine ⟨x, dx, [m, m], fs, ks, ?_, rfl, hx, hfs, hks, fun v h => ?_, hw, k⟩
  · simp
  · rw [show v = m by simpa using h]
    exact vm
end
/-- BadRule is raised, and all else stays -/
def Bad0 (B : Addr) (H : Hp) (z : Str) (E : XK) : Prop := ∀ (H' : Hp) (dd : Addr), Same H H' → H' dd = none → E (.ref B) (some dd) (upd H' dd (.xd [(("what" : Str), .str z)]))
/-- the three ends of a rule's making -/
def Ends3 (B : Addr) (H : Hp) (Q : VK) (E : XK) (ok : Bool) (ks : List V) : Prop := (ok = false → Bad0 B H "number" E) ∧ (ok = true → kindsV ks = false → Bad0 B H "kinds" E) ∧ (ok = true → kindsV ks = true → ∀ v H', Same H H' → Q v H')
theorem mk_X {bd n : Nat} {B C : Addr} {ok : List V → Bool} {F : List V → List (Str × V) → Addr → List (Str × V)} {ns ks : List V} {H : Hp} {Q : VK} {E : XK} (hb : 0 < bd) (hn : ns.length = n) (hk : ks.length ≤ 90) (hv : ∀ v ∈ ns, VO H v) (hw : ∀ v ∈ ks, VO H v) (e : Ends3 B H Q E (ok ns) ks) :
    ∀ x dx, H x = none → H dx = none → dx ≠ x → spIX bd n B C ok F (V.ref x :: (ns ++ ks)) (upd (upd H dx (.own x)) x (.ins C dx [])) (fun v H2 => v = .non ∧ Q (.ref x) H2) E := by
  intro x dx hx hdx ne
  have s0 : Same H (upd (upd H dx (.own x)) x (.ins C dx [])) := fun b o e => by rw [upd_ne (ne_of_none e hx), upd_ne (ne_of_none e hdx)]; exact e
  have back : ∀ {H' : Hp}, (∀ b o, (upd (upd H dx (.own x)) x (.ins C dx [])) b = some o → b ≠ x → H' b = some o) → Same H H' := fun h b o e => h b o (s0 b o e) (ne_of_none e hx)
  obtain ⟨e1, e2, e3⟩ := e
  refine ⟨x, dx, ns, [], ks, rfl, hn, upd_same, hb, hk, fun v m => (hv v m).same s0, fun v m => (hw v m).same s0, ?_⟩
  cases h1 : ok ns with
  | false => exact .inl ⟨rfl, fun H' dd h2 h3 => e1 h1 H' dd (back h2) h3⟩
  | true =>
    refine .inr ⟨rfl, ?_⟩
    cases h2 : kindsV ks with
    | false => exact .inr ⟨h2, fun H' dd h3 h4 => e2 h1 h2 H' dd (back h3) h4⟩
    | true => exact .inl ⟨h2, fun kt H' h3 h4 h5 h6 => ⟨rfl, e3 h1 h2 _ H' (back h6)⟩⟩
/-- how the four are made, or not -/
structure RMx (P : Program) (w : World) (K : PySem.W.Frag) (mg : Str → Option Value) (base : Heap) (a : RAd) (B : Addr) : Prop where
  wo : RWo K mg a
  al : ∃ f, Mk K a.al f ∧ FnR P w K mg base (L2.CX P w) 7 f (spIX 880 1 B a.al okBV FAL1)
  am : ∃ f, Mk K a.am f ∧ FnR P w K mg base (L2.CX P w) 7 f (spIX 880 1 B a.am okBV FAM)
  bt : ∃ f, Mk K a.bt f ∧ FnR P w K mg base (L2.CX P w) 7 f (spIX 880 2 B a.bt okWV FAL2)
  ex : ∃ f, Mk K a.ex f ∧ FnR P w K mg base (L2.CX P w) 7 f (spIX 880 1 B a.ex (fun ns => okWV [ns.getD 0 .non, ns.getD 0 .non]) FEx)
theorem FnR.lessX {P : Program} {w : World} {K : PySem.W.Frag} {mg : Str → Option Value} {base : Heap} {k n bd bd' : Nat} {f B C : Addr} {ok : List V → Bool} {F : List V → List (Str × V) → Addr → List (Str × V)} (G : FnR P w K mg base (L2.CX P w) k f (spIX bd n B C ok F)) (h : bd' ≤ bd) : FnR P w K mg base (L2.CX P w) k f (spIX bd' n B C ok F) := by
  refine G.imp fun vs H Q E q => ?_
  obtain ⟨x, dx, ns, fs, ks, rfl, hl, hx, hfs, r⟩ := q
  exact ⟨x, dx, ns, fs, ks, rfl, hl, hx, Nat.lt_of_lt_of_le hfs h, r⟩
end Cs

set_option Elab.async false
set_option linter.all false
set_option maxRecDepth 100000
set_option maxHeartbeats 4000000
set_option pp.maxSteps 600
/-! The written rule, split at its spaces. -/
namespace Cs
open PySem L2
theorem ntS_dig9 : ∀ d : Nat, d < 10 → ntS (d : Int) = ⟨#[48 + d]⟩ ∧ PySem.intText? (ntS (d : Int)) = some (d : Int) := by decide +kernel
theorem ntS_dig {n : Int} (h : Bnd9 n) : ∃ d : Nat, d < 10 ∧ n = (d : Int) ∧ ntS n = ⟨#[48 + d]⟩ ∧ PySem.intText? (ntS n) = some n := by
  have h1 := h.1
  have h2 := h.2
  obtain ⟨d, rfl⟩ : ∃ d : Nat, n = d := ⟨n.toNat, by omega⟩
  have hd : d < 10 := by omega
  exact ⟨d, hd, rfl, ntS_dig9 d hd⟩
/-- the kinds with a plus sign between -/
def sepK : List Str → List Str
  | [] => []
  | [x] => [x]
  | x :: y :: r => x :: "+" :: sepK (y :: r)
def wordsR : RCl → Int → Option Int → List Str → List Str
  | .al, l, _, ks => "at" :: "least" :: ntS l :: sepK ks
  | .am, _, m, ks => "at" :: "most" :: ntS (mostI m) :: sepK ks
  | .bt, l, m, ks => "from" :: ntS l :: "to" :: ntS (mostI m) :: sepK ks
  | .ex, l, _, ks => "exactly" :: ntS l :: sepK ks
theorem lit_al : ("at least " : Str) = "at" ++ " " ++ "least" ++ " " := by decide +kernel
theorem lit_am : ("at most " : Str) = "at" ++ " " ++ "most" ++ " " := by decide +kernel
theorem lit_bt : ("from " : Str) = "from" ++ " " := by decide +kernel
theorem lit_to : (" to " : Str) = " " ++ "to" ++ " " := by decide +kernel
theorem lit_ex : ("exactly " : Str) = "exactly" ++ " " := by decide +kernel
theorem lit_pl : (" + " : Str) = " " ++ "+" ++ " " := by decide +kernel
theorem emptyS_app (z : Str) : Str.empty ++ z = z := str_ext (by rw [PySem.Str.cps_append]; simp [Str.empty])
theorem joinS_cons (sep x y : Str) (r : List Str) : Str.join sep (x :: y :: r) = x ++ sep ++ Str.join sep (y :: r) := rfl
theorem joinS_one (sep x : Str) : Str.join sep [x] = x := rfl
theorem sum_sep {ks : List Str} (h : Kinds ks) : sumT ks = Str.join " " (sepK ks) := by
  unfold sumT
  rw [TL.join_eq]
  rcases kinds_cases h with ⟨x, rfl⟩ | ⟨x, y, rfl⟩ | ⟨x, y, z, rfl⟩
  · rfl
  · show Str.join " + " [x, y] = Str.join " " [x, "+", y]
    simp only [joinS_cons, joinS_one, lit_pl, PySem.Str.append_assoc]
  · show Str.join " + " [x, y, z] = Str.join " " [x, "+", y, "+", z]
    simp only [joinS_cons, joinS_one, lit_pl, PySem.Str.append_assoc]
theorem sepK_ne {ks : List Str} (h : Kinds ks) : ∃ x r, sepK ks = x :: r := by
  rcases kinds_cases h with ⟨x, rfl⟩ | ⟨x, y, rfl⟩ | ⟨x, y, z, rfl⟩
  · exact ⟨_, _, rfl⟩
  · exact ⟨_, _, rfl⟩
  · exact ⟨_, _, rfl⟩
theorem str_words {c : RCl} {l : Int} {m : Option Int} {ks : List Str} (h : Kinds ks) : strR c l m ks = Txt.join " " (wordsR c l m ks) := by
  rw [TL.join_eq]
  obtain ⟨x, r, e⟩ := sepK_ne h
  have es := sum_sep h
  cases c
  · show Str.empty ++ "at least " ++ ntS l ++ " " ++ sumT ks = Str.join " " ("at" :: "least" :: ntS l :: sepK ks)
    rw [es, e]
    simp only [joinS_cons, lit_al, emptyS_app, PySem.Str.append_assoc]
  · show Str.empty ++ "at most " ++ ntS (mostI m) ++ " " ++ sumT ks = Str.join " " ("at" :: "most" :: ntS (mostI m) :: sepK ks)
    rw [es, e]
    simp only [joinS_cons, lit_am, emptyS_app, PySem.Str.append_assoc]
  · show Str.empty ++ "from " ++ ntS l ++ " to " ++ ntS (mostI m) ++ " " ++ sumT ks = Str.join " " ("from" :: ntS l :: "to" :: ntS (mostI m) :: sepK ks)
    rw [es, e]
    simp only [joinS_cons, lit_bt, lit_to, emptyS_app, PySem.Str.append_assoc]
  · show Str.empty ++ "exactly " ++ ntS l ++ " " ++ sumT ks = Str.join " " ("exactly" :: ntS l :: sepK ks)
    rw [es, e]
    simp only [joinS_cons, lit_ex, emptyS_app, PySem.Str.append_assoc]
theorem no_sp {z : Str} (h : Word z) : 32 ∉ TL.tl z := fun m => by
  have h1 := h.2.2 32 m
  exact absurd h1 (by decide +kernel)
theorem nt_sp {n : Int} (h : Bnd9 n) : 32 ∉ TL.tl (ntS n) := by
  obtain ⟨d, hd, _, e, _⟩ := ntS_dig h
  rw [e]
  show 32 ∉ [48 + d]
  simp
  omega
theorem sep_sp {ks : List Str} (h : Kinds ks) : ∀ p ∈ sepK ks, 32 ∉ TL.tl p := by
  have hk : ∀ z ∈ ks, 32 ∉ TL.tl z := fun z m => no_sp (h.kd z m).1
  have hp : 32 ∉ TL.tl ("+" : Str) := by decide +kernel
  rcases kinds_cases h with ⟨x, rfl⟩ | ⟨x, y, rfl⟩ | ⟨x, y, z, rfl⟩ <;> intro p hm <;> simp only [sepK, List.mem_cons, List.not_mem_nil, or_false] at hm
  · rw [hm]
    exact hk x (by simp)
  · rcases hm with rfl | rfl | rfl
    · exact hk _ (by simp)
    · exact hp
    · exact hk _ (by simp)
  · rcases hm with rfl | rfl | rfl | rfl | rfl
    · exact hk _ (by simp)
    · exact hp
    · exact hk _ (by simp)
    · exact hp
    · exact hk _ (by simp)
theorem end_l {c : RCl} {l : Int} {m : Option Int} (h : EndOk c l m) : Bnd9 l := by
  cases c
  · exact h.1
  · rw [h.1]; exact ⟨by decide, by decide⟩
  · exact h.1
  · exact h.1
theorem words_sp {c : RCl} {l : Int} {m : Option Int} {ks : List Str} (h : Kinds ks) (he : EndOk c l m) : ∀ p ∈ wordsR c l m ks, 32 ∉ TL.tl p := by
  have hs := sep_sp h
  have hl := nt_sp (end_l he)
  have a1 : 32 ∉ TL.tl ("at" : Str) := by decide +kernel
  have a2 : 32 ∉ TL.tl ("least" : Str) := by decide +kernel
  have a3 : 32 ∉ TL.tl ("most" : Str) := by decide +kernel
  have a4 : 32 ∉ TL.tl ("from" : Str) := by decide +kernel
  have a5 : 32 ∉ TL.tl ("to" : Str) := by decide +kernel
  have a6 : 32 ∉ TL.tl ("exactly" : Str) := by decide +kernel
  intro p hm
  cases c
  · simp only [wordsR, List.mem_cons] at hm
    rcases hm with rfl | rfl | rfl | hm
    · exact a1
    · exact a2
    · exact hl
    · exact hs p hm
  · obtain ⟨_, n, rfl, hn⟩ := he
    simp only [wordsR, List.mem_cons] at hm
    rcases hm with rfl | rfl | rfl | hm
    · exact a1
    · exact a3
    · exact nt_sp hn
    · exact hs p hm
  · obtain ⟨_, n, rfl, hn⟩ := he
    simp only [wordsR, List.mem_cons] at hm
    rcases hm with rfl | rfl | rfl | rfl | hm
    · exact a4
    · exact hl
    · exact a5
    · exact nt_sp hn
    · exact hs p hm
  · simp only [wordsR, List.mem_cons] at hm
    rcases hm with rfl | rfl | hm
    · exact a6
    · exact hl
    · exact hs p hm
theorem split_str {c : RCl} {l : Int} {m : Option Int} {ks : List Str} (h : Kinds ks) (he : EndOk c l m) : Txt.split (strR c l m ks) " " = wordsR c l m ks := by
  rw [str_words h]
  exact TL.split_join (s := 32) (S := []) (by decide +kernel) (by decide +kernel) (by cases c <;> (intro e; cases e)) (words_sp h he)
/-! ### slices of lists of texts -/
theorem cutS_to {zs : List Str} (v : Nat) : cutV (zs.map V.str) none (some (v : Int)) = (zs.take v).map V.str := by
  unfold cutV
  rw [HT.sIx_nat, HT.sIx_none, List.length_map, List.drop_zero, Nat.sub_zero, ← List.map_take]
  congr 1
  by_cases h : v ≤ zs.length
  · rw [Nat.min_eq_left h]
  · rw [Nat.min_eq_right (by omega), List.take_length, List.take_of_length_le (by omega)]
theorem cutS_from {zs : List Str} (v : Nat) : cutV (zs.map V.str) (some (v : Int)) none = (zs.drop v).map V.str := by
  unfold cutV
  rw [HT.sIx_nat, HT.sIx_none, List.length_map, ← List.map_drop, ← List.map_take]
  congr 1
  by_cases h : v ≤ zs.length
  · rw [Nat.min_eq_left h, List.take_of_length_le (by rw [List.length_drop]; omega)]
  · rw [Nat.min_eq_right (by omega), List.drop_length, List.take_nil, List.drop_of_length_le (by omega)]
theorem cutS_mid {zs : List Str} (u v : Nat) : cutV (zs.map V.str) (some (u : Int)) (some (v : Int)) = ((zs.take v).drop u).map V.str := by
  unfold cutV
  rw [HT.sIx_nat, HT.sIx_nat, List.length_map, ← List.map_drop, ← List.map_take]
  congr 1
  rw [List.drop_take]
  by_cases h : u ≤ zs.length
  · rw [Nat.min_eq_left h]
    by_cases h2 : v ≤ zs.length
    · rw [Nat.min_eq_left h2]
    · rw [Nat.min_eq_right (by omega), List.take_of_length_le (by rw [List.length_drop]; omega), List.take_of_length_le (by rw [List.length_drop]; omega)]
  · rw [Nat.min_eq_right (show zs.length ≤ u by omega), List.drop_length, List.drop_of_length_le (by omega), List.take_nil, List.take_nil]
end Cs

set_option Elab.async false
set_option linter.all false
set_option maxRecDepth 100000
set_option maxHeartbeats 4000000
/-! xs[lo:hi:st] of a list: a new list. -/
namespace Cs
open PySem PySem.Spec PyProof.Rows L2
/-- the items' places -/
def stepI (n : Nat) (lo hi st : Option Int) : List Nat := sliceRange (sliceBounds lo hi st n).1 (sliceBounds lo hi st n).2.1 (sliceBounds lo hi st n).2.2
def stepV (xs : List V) (lo hi st : Option Int) : List V := (stepI xs.length lo hi st).filterMap (xs[·]?)
theorem vals_pick {xs : List V} {us : List Value} (r : Vals xs us) : ∀ is : List Nat, Vals (is.filterMap (xs[·]?)) (is.filterMap (us[·]?))
  | [] => .nil
  | i :: is => by
    have ih := vals_pick r is
    have hl := r.length
    by_cases h : i < xs.length
    · have h2 : i < us.length := by omega
      have r1 : RelV xs[i] us[i] := by
        obtain ⟨u, e, q⟩ := r.get (List.getElem?_eq_getElem h)
        rw [List.getElem?_eq_getElem h2] at e
        obtain rfl := Option.some.inj e
        exact q
      rw [List.filterMap_cons_some (List.getElem?_eq_getElem h), List.filterMap_cons_some (List.getElem?_eq_getElem h2)]
      exact .cons r1 ih
    · rw [List.filterMap_cons_none (List.getElem?_eq_none (by omega)), List.filterMap_cons_none (List.getElem?_eq_none (by omega))]
      exact ih
section
variable {X : Cx} {e : Expr} {te : TE} {lo hi : Option Expr} {st : Expr} {tl th ts : TO} {p2 pos : Pos}
def tSl3 (K : PySem.W.Frag) (te : TE) (tl th ts : TO) : TE := fun σ H Q => te σ H fun x H1 => tl σ H1 fun l H2 => th σ H2 fun u H3 => ts σ H3 fun d H4 =>
  ∃ a xs, x = .ref a ∧ SqL K H4 a xs ∧ d ≠ some 0 ∧ (stepV xs l u d).length ≤ sizeLine ∧ ∀ p, H4 p = none → Q (.ref p) (upd H4 p (.lst (stepV xs l u d)))
theorem pe_slice3 (he : PE X e te) (hl : PO X lo tl) (hu : PO X hi th) (hs : PO X (some st) ts) : PE X (.Subscript e (.Slice lo hi (some st) p2) pos) (tSl3 X.K te tl th ts) := by
  refine ⟨fun pins s σ H Q I h => ?_⟩
  refine Subscript_ (thn (he.run pins s σ H _ I h) fun v s1 ⟨x, H1, I1, r1, q1⟩ => ?_)
  refine wpAny_Slice (thn (hl.run pins s1 σ H1 _ I1 q1) fun vl s2 ⟨l, H2, I2, pl, q2⟩ => thn (hu.run pins s2 σ H2 _ I2 q2) fun vu s3 ⟨u, H3, I3, pu, q3⟩ => thn (hs.run pins s3 σ H3 _ I3 q3) fun vd s4 ⟨d, H4, I4, pd, q4⟩ => ?_)
  obtain ⟨a, xs, rfl, hx, hd0, hz0, q⟩ := q4
  cases r1
  have I5 : Inv X pins σ H4 { s4 with heap := s4.heap.push { cls := .type "slice", data := .fields #[vl, vu, vd] } } := I4.kept (t' := s4.toks) fun b ob q => Heap.get?_push_of_some _ q
  obtain ⟨its, r, ht, hz⟩ := I5.list hx
  show wpAny (model X.prog X.w) X.A (subscriptTail e (.Slice lo hi (some st) p2) (.ref a) (.ref s4.heap.objs.size)) (EP X pins σ Q) X.xe { s4 with heap := s4.heap.push { cls := .type "slice", data := .fields #[vl, vu, vd] } }
  refine tail_any (ops := [.ref a, .ref s4.heap.objs.size]) ht.isList.typeIs slot_list_getitem.lookup ?_ (by with_unfolding_all rfl)
  refine wpAny_getItem_list_slice ht.isList (Heap.IsSliceOf.new ..) pl pu pd hd0 ?_ (by rw [List.size_toArray]; have := r.length; omega)
  have er : slicePick its.toArray l u d = ((stepI xs.length l u d).filterMap (its[·]?)).toArray := by
    unfold slicePick stepI
    rw [List.size_toArray, r.length]
    congr 1
    refine congrFun (congrArg _ (funext fun i => ?_)) _
    simp
  rw [er]
  refine ⟨.ref _, _, I5.laid (t' := s4.toks) (o := .lst (stepV xs l u d)) (fun b ob q => Heap.get?_push_of_some _ q) (Nat.le_refl _) ?_, rfl, q _ (I5.hok.fresh (Nat.le_refl _))⟩
  exact ⟨hz0, _, 0, vals_pick r _, Heap.get?_push_size _ rfl⟩
end
end Cs

set_option Elab.async false
set_option linter.all false
set_option maxRecDepth 100000
set_option maxHeartbeats 4000000
/-! C(e, .., *y), C a class of the module. -/
namespace Cs
open PySem PySem.Spec PyProof.Rows L2
theorem pe_mkM {X : Cx} {CX : CXT} {k : Nat} {f C : Addr} {sp : Sp} {E : XK} {x : Str} {e : Expr} {es : List Expr} {t : TA} {p pos : Pos} (M : Mk X.K C f) (F : FnR X.prog X.w X.K X.mg X.base CX k f sp) (hr : Room (k + 1) X.A) (hg : Gl X x) (hm : X.mg x = some (.ref C)) (hx : Passes CX X E) (ha : PA X (e :: es) t) (hdb : (x == ("__debug__" : Str)) = false := by decide)
    (he : starEach (e :: es) X.env = (false, eval e X.env) :: starEach es X.env := by rfl) (hst : (backTo pos (starEach es X.env)).any (·.1) = true := by rfl) : PE X (.Call (.Name x p) (e :: es) [] pos) (StX.tMakeR C sp E t) := by
  refine ⟨fun pins s σ H Q I h => ?_⟩
  refine wpAny_Call_Name_kw (ld_glob I hg hm ?_ hdb)
  exact PySem.W.callWith_S2 (h₀ := X.base) I.ok.mod.kin M.kp (thn (ha.run pos pins s σ H _ I h) fun us s1 ⟨vs, H1, I1, r, q⟩ => ⟨I1.kIn, StX.run_makeR M F hr hx I1 r q⟩) he hst
end Cs

set_option Elab.async false
set_option linter.all false
set_option maxRecDepth 100000
set_option maxHeartbeats 4000000
set_option pp.maxSteps 600
/-! What reading a rule's tokens gives; plain. -/
namespace Cs
open PySem L2
def DIG : Str := "0123456789"
theorem dig_range : DIG.cps.toList = (List.range 10).map (48 + ·) := by decide +kernel
def digB (z : Str) : Bool := match z.cps.toList with
  | [c] => decide (c ∈ DIG.cps.toList)
  | _ => false
def digV (z : Str) : Int := match z.cps.toList with
  | [c] => (c : Int) - 48
  | _ => 0
theorem tx_of (z : Str) : z = Tx z.cps.toList := by
  obtain ⟨⟨l⟩⟩ := z
  rfl
theorem digB_one {z : Str} (h : digB z = true) : ∃ d : Nat, d < 10 ∧ z = ⟨#[48 + d]⟩ ∧ digV z = (d : Int) := by
  have ez := tx_of z
  unfold digB at h
  unfold digV
  cases e : z.cps.toList with
  | nil => rw [e] at h; cases h
  | cons c r =>
    cases r with
    | cons _ _ => rw [e] at h; cases h
    | nil =>
      rw [e] at h ez
      have hc := of_decide_eq_true h
      rw [dig_range, List.mem_map] at hc
      obtain ⟨d, hd, rfl⟩ := hc
      refine ⟨d, List.mem_range.mp hd, ez, ?_⟩
      show ((48 + d : Nat) : Int) - 48 = d
      omega
theorem digB_nt {n : Int} (h : Bnd9 n) : digB (ntS n) = true ∧ digV (ntS n) = n := by
  obtain ⟨d, hd, rfl, e, _⟩ := ntS_dig h
  rw [e]
  constructor
  · show decide (48 + d ∈ DIG.cps.toList) = true
    rw [dig_range]
    exact decide_eq_true (List.mem_map.mpr ⟨d, List.mem_range.mpr hd, rfl⟩)
  · show ((48 + d : Nat) : Int) - 48 = d
    omega
theorem digB_len {z : Str} (h : z.length ≠ 1) : digB z = false := by
  have h : z.cps.toList.length ≠ 1 := by
    intro e
    exact h (by show z.cps.size = 1; rw [← Array.length_toList]; exact e)
  unfold digB
  cases e : z.cps.toList with
  | nil => rfl
  | cons c r =>
    cases r with
    | nil => rw [e] at h; exact absurd rfl h
    | cons _ _ => rfl
/-! every second one -/
def pick (is : List Nat) (zs : List Str) : List Str := is.filterMap (zs[·]?)
def evs (zs : List Str) : List Str := pick (stepI zs.length (some 0) none (some 2)) zs
def ods (zs : List Str) : List Str := pick (stepI zs.length (some 1) none (some 2)) zs
theorem stepV_str (zs : List Str) (lo hi st : Option Int) : stepV (zs.map V.str) lo hi st = (pick (stepI zs.length lo hi st) zs).map V.str := by
  unfold stepV pick
  rw [List.length_map, List.map_filterMap]
  congr 1
  funext i
  rw [List.getElem?_map]
theorem pick_mem {is : List Nat} {zs : List Str} {z : Str} (h : z ∈ pick is zs) : z ∈ zs := by
  obtain ⟨i, _, e⟩ := List.mem_filterMap.mp h
  exact List.mem_of_getElem? e
theorem pick_len (is : List Nat) (zs : List Str) : (pick is zs).length ≤ is.length := List.length_filterMap_le _ _
theorem step_len : ∀ n, n ≤ 20 → (stepI n (some 0) none (some 2)).length ≤ 20 ∧ (stepI n (some 1) none (some 2)).length ≤ 20 := by
  intro n h
  have key : ∀ n : Fin 21, (stepI n (some 0) none (some 2)).length ≤ 20 ∧ (stepI n (some 1) none (some 2)).length ≤ 20 := by decide +kernel
  exact key ⟨n, by omega⟩
def okN (zs : List Str) : Bool := (decide (zs.length % 2 = 1) && (ods zs).all fun z => decide (z = "+")) && (evs zs).all wordB
/-- the class, its figures and its names -/
def selT : List Str → Option (RCl × List Str × List Str)
  | [] => none
  | z :: r =>
    if z = "exactly" then some (.ex, r.take 1, r.drop 1)
    else if z = "from" then match r with
      | x :: y :: t => if y = "to" then some (.bt, x :: t.take 1, t.drop 1) else none
      | _ => none
    else if z = "at" then match r with
      | y :: t => if y = "least" then some (.al, t.take 1, t.drop 1) else if y = "most" then some (.am, t.take 1, t.drop 1) else none
      | _ => none
    else none
def readT (ws : List Str) : Option (RCl × List Int × List Str) := match selT ws with
  | none => none
  | some (c, ds, ns) => if okN ns && ds.all digB then some (c, ds.map digV, evs ns) else none
theorem sel_ex (r : List Str) : selT ("exactly" :: r) = some (.ex, r.take 1, r.drop 1) := rfl
theorem sel_bt (x : Str) (t : List Str) : selT ("from" :: x :: "to" :: t) = some (.bt, x :: t.take 1, t.drop 1) := rfl
theorem sel_al (t : List Str) : selT ("at" :: "least" :: t) = some (.al, t.take 1, t.drop 1) := rfl
theorem sel_am (t : List Str) : selT ("at" :: "most" :: t) = some (.am, t.take 1, t.drop 1) := rfl
theorem sel_fr (x y : Str) (t : List Str) : selT ("from" :: x :: y :: t) = if y = "to" then some (.bt, x :: t.take 1, t.drop 1) else none := rfl
theorem sel_at (y : Str) (t : List Str) : selT ("at" :: y :: t) = if y = "least" then some (.al, t.take 1, t.drop 1) else if y = "most" then some (.am, t.take 1, t.drop 1) else none := rfl
/-- the tokens are of one of the four forms, or of none -/
theorem sel_cases {ws : List Str} (hne : ws ≠ []) : (∃ r, ws = (("exactly" : String) : Str) :: r) ∨ (∃ x t, ws = (("from" : String) : Str) :: x :: (("to" : String) : Str) :: t) ∨ (∃ t, ws = (("at" : String) : Str) :: (("least" : String) : Str) :: t) ∨ (∃ t, ws = (("at" : String) : Str) :: (("most" : String) : Str) :: t) ∨
    (selT ws = none ∧ (∃ r, ws = (("from" : String) : Str) :: r ∧ (r.take 2).drop 1 ≠ [(("to" : String) : Str)])) ∨ (selT ws = none ∧ ∃ z r, ws = z :: r ∧ z ≠ (("exactly" : String) : Str) ∧ z ≠ (("from" : String) : Str) ∧ (z :: r).take 2 ≠ [(("at" : String) : Str), (("least" : String) : Str)] ∧ (z :: r).take 2 ≠ [(("at" : String) : Str), (("most" : String) : Str)]) := by
  cases ws with
  | nil => exact absurd rfl hne
  | cons z r =>
    by_cases e1 : z = (("exactly" : String) : Str)
    · exact .inl ⟨r, by rw [e1]⟩
    by_cases e2 : z = (("from" : String) : Str)
    · subst e2
      match r with
      | [] => exact .inr (.inr (.inr (.inr (.inl ⟨rfl, [], rfl, by decide⟩))))
      | [x] => exact .inr (.inr (.inr (.inr (.inl ⟨rfl, [x], rfl, by simp⟩))))
      | x :: y :: t =>
        by_cases e3 : y = (("to" : String) : Str)
        · subst e3
          exact .inr (.inl ⟨x, t, rfl⟩)
        · refine .inr (.inr (.inr (.inr (.inl ⟨?_, x :: y :: t, rfl, ?_⟩))))
          · exact (sel_fr x y t).trans (if_neg e3)
          · show [y] ≠ [(("to" : String) : Str)]
            simpa using e3
    by_cases e3 : z = (("at" : String) : Str)
    · subst e3
      match r with
      | [] =>
        refine .inr (.inr (.inr (.inr (.inr ⟨?_, (("at" : String) : Str), [], rfl, e1, e2, by decide, by decide⟩))))
        rfl
      | y :: t =>
        by_cases e4 : y = (("least" : String) : Str)
        · subst e4
          exact .inr (.inr (.inl ⟨t, rfl⟩))
        by_cases e5 : y = (("most" : String) : Str)
        · subst e5
          exact .inr (.inr (.inr (.inl ⟨t, rfl⟩)))
        refine .inr (.inr (.inr (.inr (.inr ⟨?_, (("at" : String) : Str), y :: t, rfl, e1, e2, ?_, ?_⟩))))
        · exact (sel_at y t).trans ((if_neg e4).trans (if_neg e5))
        · show [(("at" : String) : Str), y] ≠ [(("at" : String) : Str), (("least" : String) : Str)]
          intro q
          exact e4 (List.cons.inj (List.cons.inj q).2).1
        · show [(("at" : String) : Str), y] ≠ [(("at" : String) : Str), (("most" : String) : Str)]
          intro q
          exact e5 (List.cons.inj (List.cons.inj q).2).1
    refine .inr (.inr (.inr (.inr (.inr ⟨?_, z, r, rfl, e1, e2, ?_, ?_⟩))))
    · exact (if_neg e1).trans ((if_neg e2).trans (if_neg e3))
    · cases r with
      | nil =>
        show [z] ≠ [(("at" : String) : Str), (("least" : String) : Str)]
        simp
      | cons y t =>
        show [z, y] ≠ [(("at" : String) : Str), (("least" : String) : Str)]
        intro q
        exact e3 (List.cons.inj q).1
    · cases r with
      | nil =>
        show [z] ≠ [(("at" : String) : Str), (("most" : String) : Str)]
        simp
      | cons y t =>
        show [z, y] ≠ [(("at" : String) : Str), (("most" : String) : Str)]
        intro q
        exact e3 (List.cons.inj q).1
/-- a token -/
structure Tok (z : Str) : Prop where
  sp : 32 ∉ TL.tl z
  ok : PyData.strOk z = true
  len : z.length ≤ 200
structure TokL (ws : List Str) : Prop where
  ne : ws ≠ []
  len : ws.length ≤ 14
  tok : ∀ z ∈ ws, Tok z
theorem TokL.split {ws : List Str} (h : TokL ws) : Txt.split (Txt.join " " ws) " " = ws := TL.split_join (s := 32) (S := []) (by decide +kernel) (by decide +kernel) h.ne fun p m => (h.tok p m).sp
theorem TokL.jlen {ws : List Str} (h : TokL ws) : (Txt.join " " ws).length ≤ 4000 := by
  have h1 := joinS_len " " ws
  have h2 := sumS_le (B := 200) (ts := ws) fun z m => (h.tok z m).len
  have h3 := h.len
  have e : ((" " : String) : Str).length = 1 := rfl
  rw [TL.join_eq]
  rw [e] at h1
  omega
theorem strs_canT : ∀ {zs : List Str}, (∀ z ∈ zs, PyData.strOk z = true) → PyData.canLayAll0 (zs.map .str) = true
  | [], _ => rfl
  | z :: zs, h => by
    rw [List.map_cons, PyData.canLayAll0, strs_canT fun y m => h y (List.mem_cons_of_mem _ m), PyData.canLay0, h z List.mem_cons_self]
    rfl
theorem plT_shaped {zs : List Str} (h : ∀ z ∈ zs, PyData.strOk z = true) : SeqAt.shaped (plR zs) = true := by
  unfold SeqAt.shaped plR
  rw [Bool.and_eq_true]
  refine ⟨by rw [PyData.canLay0]; exact strs_canT h, decide_eq_true ?_⟩
  rw [PyData.depth, strs_depth]
  decide
theorem eqT_go {K : PySem.W.Frag} {H : Hp} {x y : Addr} {zs ws : List Str} {Q : VK} (hx : H x = some (.lst (zs.map V.str))) (hy : H y = some (.lst (ws.map V.str))) (hz : ∀ z ∈ zs, PyData.strOk z = true) (hw : ∀ z ∈ ws, PyData.strOk z = true) (k : Q (.bl (decide (zs = ws))) H) : rEqD K (.ref x) (.ref y) H Q :=
  ⟨plR zs, plR ws, .lst (SqL.of hx) (strs_dp _), .lst (SqL.of hy) (strs_dp _), plT_shaped hz, plT_shaped hw, by rw [plR_eqv]; exact k⟩
theorem neT_go {K : PySem.W.Frag} {H : Hp} {x y : Addr} {zs ws : List Str} {Q : VK} (hx : H x = some (.lst (zs.map V.str))) (hy : H y = some (.lst (ws.map V.str))) (hz : ∀ z ∈ zs, PyData.strOk z = true) (hw : ∀ z ∈ ws, PyData.strOk z = true) (k : Q (.bl (!decide (zs = ws))) H) : rNeD K (.ref x) (.ref y) H Q :=
  ⟨plR zs, plR ws, .lst (SqL.of hx) (strs_dp _), .lst (SqL.of hy) (strs_dp _), plT_shaped hz, plT_shaped hw, by rw [plR_eqv]; exact k⟩
theorem cutSn1 {zs : List Str} : cutV (zs.map V.str) none (some 1) = (zs.take 1).map V.str := cutS_to 1
theorem cutSn2 {zs : List Str} : cutV (zs.map V.str) none (some 2) = (zs.take 2).map V.str := cutS_to 2
theorem cutS12 {zs : List Str} : cutV (zs.map V.str) (some 1) (some 2) = ((zs.take 2).drop 1).map V.str := cutS_mid 1 2
theorem cutS23 {zs : List Str} : cutV (zs.map V.str) (some 2) (some 3) = ((zs.take 3).drop 2).map V.str := cutS_mid 2 3
theorem cutS34 {zs : List Str} : cutV (zs.map V.str) (some 3) (some 4) = ((zs.take 4).drop 3).map V.str := cutS_mid 3 4
theorem cutS2n {zs : List Str} : cutV (zs.map V.str) (some 2) none = (zs.drop 2).map V.str := cutS_from 2
theorem cutS3n {zs : List Str} : cutV (zs.map V.str) (some 3) none = (zs.drop 3).map V.str := cutS_from 3
theorem cutS4n {zs : List Str} : cutV (zs.map V.str) (some 4) none = (zs.drop 4).map V.str := cutS_from 4
def numT : RCl → List Int → Bool
  | .bt, ns => okWV (ns.map V.int)
  | .ex, ns => okWV [.int (ns.getD 0 0), .int (ns.getD 0 0)]
  | _, ns => okBV (ns.map V.int)
/-- the ends of reading -/
def EndT (B : Addr) (H : Hp) (Q : VK) (E : XK) (ws : List Str) : Prop := (readT ws = none → Bad0 B H "text" E) ∧ ∀ c ns ks, readT ws = some (c, ns, ks) → Ends3 B H Q E (numT c ns) (ks.map V.str)
def whatT (ws : List Str) : Str := match readT ws with
  | none => "text"
  | some (c, ns, ks) => if numT c ns = false then "number" else if kindsV (ks.map V.str) = false then "kinds" else ""
theorem Ends3.up {B : Addr} {H H1 : Hp} {Q : VK} {E : XK} {ok : Bool} {ks : List V} (s : Same H H1) (h : Ends3 B H Q E ok ks) : Ends3 B H1 Q E ok ks :=
  ⟨fun e H' dd h1 h2 => h.1 e H' dd (s.trans h1) h2, fun e e' H' dd h1 h2 => h.2.1 e e' H' dd (s.trans h1) h2, fun e e' v H' h1 => h.2.2 e e' v H' (s.trans h1)⟩
/-- what is no text -/
def notS : V → Prop
  | .str _ => False
  | _ => True
theorem VO.notStr {K : PySem.W.Frag} {H : Hp} {v : V} (h : VO H v) (n : notS v) : ∃ ty, TyX K H v (.type ty) ∧ kitB ty "str" = some false := by
  cases h with
  | non => exact ⟨"NoneType", .base .non, by decide +kernel⟩
  | bl b => exact ⟨"bool", .base (.bl b), by decide +kernel⟩
  | int i => exact ⟨"int", .base (.int i), by decide +kernel⟩
  | str z h => exact n.elim
  | lst h => exact ⟨"list", .base (.lst h), by decide +kernel⟩
  | tup h => exact ⟨"tuple", .base (.tup h), by decide +kernel⟩
end Cs

set_option Elab.async false
set_option linter.all false
set_option maxRecDepth 100000
set_option maxHeartbeats 8000000
set_option pp.maxSteps 600
/-! Reading a rule from any text, or BadRule raised. -/
namespace Cs
open PySem L2
def spIsDigitX : Sp := fun vs H Q _ => ∃ z : Str, vs = [.str z] ∧ z.length ≤ 10000 ∧ Q (.bl (digB z)) H
def spReadKindsX : Sp := fun vs H Q _ => ∃ (a : Addr) (zs : List Str), vs = [.ref a] ∧ H a = some (.lst (zs.map V.str)) ∧ zs.length ≤ 20 ∧ (∀ z ∈ zs, z.length ≤ 10000) ∧ (okN zs = false → ∀ H', Same H H' → Q .non H') ∧ (okN zs = true → ∀ (p : Addr) (H' : Hp), H p = none → Same H H' → H' p = some (.lst ((evs zs).map V.str)) → Q (.ref p) H')
def spReadX (B : Addr) : Sp := fun vs H Q E => ∃ v, vs = [v] ∧ ((VO H v ∧ notS v ∧ Bad0 B H "text" E) ∨ ∃ ws, TokL ws ∧ v = .str (Txt.join " " ws) ∧ EndT B H Q E ws)
theorem mk_X1 {bd : Nat} {B C : Addr} {ok : List V → Bool} {F : List V → List (Str × V) → Addr → List (Str × V)} {v : V} {ks : List V} {H : Hp} {Q : VK} {E : XK} (hb : 0 < bd) (hk : ks.length ≤ 90) (hv : VO H v) (hw : ∀ v ∈ ks, VO H v) (e : Ends3 B H Q E (ok [v]) ks) :
    ∀ x dx, H x = none → H dx = none → dx ≠ x → spIX bd 1 B C ok F (V.ref x :: (v :: (ks ++ []))) (upd (upd H dx (.own x)) x (.ins C dx [])) (fun v H2 => v = .non ∧ Q (.ref x) H2) E := by
  rw [List.append_nil]
  exact mk_X (ns := [v]) hb rfl hk (fun y m => by rw [List.mem_singleton.mp m]; exact hv) hw e
theorem mk_X2 {bd : Nat} {B C : Addr} {ok : List V → Bool} {F : List V → List (Str × V) → Addr → List (Str × V)} {v u : V} {ks : List V} {H : Hp} {Q : VK} {E : XK} (hb : 0 < bd) (hk : ks.length ≤ 90) (hv : VO H v) (hu : VO H u) (hw : ∀ v ∈ ks, VO H v) (e : Ends3 B H Q E (ok [v, u]) ks) :
    ∀ x dx, H x = none → H dx = none → dx ≠ x → spIX bd 2 B C ok F (V.ref x :: (v :: u :: (ks ++ []))) (upd (upd H dx (.own x)) x (.ins C dx [])) (fun v H2 => v = .non ∧ Q (.ref x) H2) E := by
  rw [List.append_nil]
  refine mk_X (ns := [v, u]) hb rfl hk (fun y m => ?_) hw e
  rcases List.mem_cons.mp m with q | q
  · rw [q]; exact hv
  · rw [List.mem_singleton.mp q]; exact hu
theorem okl1 {x : Str} (h : PyData.strOk x = true) : ∀ z ∈ [x], PyData.strOk z = true := fun z hz => by rw [List.mem_singleton.mp hz]; exact h
theorem okl2 {x y : Str} (h : PyData.strOk x = true) (h2 : PyData.strOk y = true) : ∀ z ∈ [x, y], PyData.strOk z = true := fun z hz => by
  rcases List.mem_cons.mp hz with e | e
  · rw [e]; exact h
  · rw [List.mem_singleton.mp e]; exact h2
theorem so_at : PyData.strOk "at" = true := by decide +kernel
theorem so_least : PyData.strOk "least" = true := by decide +kernel
theorem so_most : PyData.strOk "most" = true := by decide +kernel
theorem so_from : PyData.strOk "from" = true := by decide +kernel
theorem so_to : PyData.strOk "to" = true := by decide +kernel
theorem so_exactly : PyData.strOk "exactly" = true := by decide +kernel
theorem sel_mem {ws : List Str} {c : RCl} {ds ns : List Str} (h : selT ws = some (c, ds, ns)) : ∀ z ∈ ds ++ ns, z ∈ ws := by
  have hne : ws ≠ [] := fun e => by rw [e] at h; cases h
  have td : ∀ (l : List Str) (z : Str), z ∈ l.take 1 ++ l.drop 1 → z ∈ l := fun l z m => by rw [List.take_append_drop] at m; exact m
  rcases sel_cases hne with ⟨r, rfl⟩ | ⟨x, r, rfl⟩ | ⟨r, rfl⟩ | ⟨r, rfl⟩ | ⟨en, _⟩ | ⟨en, _⟩
  · rw [sel_ex] at h; cases h
    exact fun z m => List.mem_cons_of_mem _ (td r z m)
  · rw [sel_bt] at h; cases h
    intro z m
    rw [List.cons_append] at m
    rcases List.mem_cons.mp m with e | e
    · rw [e]; exact List.mem_cons_of_mem _ List.mem_cons_self
    · exact List.mem_cons_of_mem _ (List.mem_cons_of_mem _ (List.mem_cons_of_mem _ (td r z e)))
  · rw [sel_al] at h; cases h
    exact fun z m => List.mem_cons_of_mem _ (List.mem_cons_of_mem _ (td r z m))
  · rw [sel_am] at h; cases h
    exact fun z m => List.mem_cons_of_mem _ (List.mem_cons_of_mem _ (td r z m))
  · rw [en] at h; cases h
  · rw [en] at h; cases h
theorem sel_len {ws : List Str} {c : RCl} {ds ns : List Str} (h : selT ws = some (c, ds, ns)) : ns.length ≤ ws.length := by
  have hne : ws ≠ [] := fun e => by rw [e] at h; cases h
  rcases sel_cases hne with ⟨r, rfl⟩ | ⟨x, r, rfl⟩ | ⟨r, rfl⟩ | ⟨r, rfl⟩ | ⟨en, _⟩ | ⟨en, _⟩
  · rw [sel_ex] at h; cases h; simp only [List.length_cons, List.length_drop]; omega
  · rw [sel_bt] at h; cases h; simp only [List.length_cons, List.length_drop]; omega
  · rw [sel_al] at h; cases h; simp only [List.length_cons, List.length_drop]; omega
  · rw [sel_am] at h; cases h; simp only [List.length_cons, List.length_drop]; omega
  · rw [en] at h; cases h
  · rw [en] at h; cases h
theorem sel_dlen {ws : List Str} {c : RCl} {ds ns : List Str} (h : selT ws = some (c, ds, ns)) : ds.length ≤ 2 := by
  have hne : ws ≠ [] := fun e => by rw [e] at h; cases h
  rcases sel_cases hne with ⟨r, rfl⟩ | ⟨x, r, rfl⟩ | ⟨r, rfl⟩ | ⟨r, rfl⟩ | ⟨en, _⟩ | ⟨en, _⟩
  · rw [sel_ex] at h; cases h; simp only [List.length_take]; omega
  · rw [sel_bt] at h; cases h; simp only [List.length_cons, List.length_take]; omega
  · rw [sel_al] at h; cases h; simp only [List.length_take]; omega
  · rw [sel_am] at h; cases h; simp only [List.length_take]; omega
  · rw [en] at h; cases h
  · rw [en] at h; cases h
theorem sel_full {ws : List Str} {c : RCl} {ds ns : List Str} (h : selT ws = some (c, ds, ns)) (hn : ns ≠ []) : (c = .ex ∧ ∃ x r, ws = (("exactly" : String) : Str) :: x :: r ∧ ds = [x] ∧ ns = r) ∨ (c = .bt ∧ ∃ x y r, ws = (("from" : String) : Str) :: x :: (("to" : String) : Str) :: y :: r ∧ ds = [x, y] ∧ ns = r) ∨
    (c = .al ∧ ∃ x r, ws = (("at" : String) : Str) :: (("least" : String) : Str) :: x :: r ∧ ds = [x] ∧ ns = r) ∨ (c = .am ∧ ∃ x r, ws = (("at" : String) : Str) :: (("most" : String) : Str) :: x :: r ∧ ds = [x] ∧ ns = r) := by
  have hne : ws ≠ [] := fun e => by rw [e] at h; cases h
  have nd : ∀ l : List Str, l.drop 1 ≠ [] → ∃ y r, l = y :: r := fun l hl => by
    cases l with
    | nil => exact absurd rfl hl
    | cons y r => exact ⟨y, r, rfl⟩
  rcases sel_cases hne with ⟨r, rfl⟩ | ⟨x, r, rfl⟩ | ⟨r, rfl⟩ | ⟨r, rfl⟩ | ⟨en, _⟩ | ⟨en, _⟩
  · rw [sel_ex] at h; cases h
    obtain ⟨y, r, rfl⟩ := nd r hn
    exact .inl ⟨rfl, y, r, rfl, rfl, rfl⟩
  · rw [sel_bt] at h; cases h
    obtain ⟨y, r, rfl⟩ := nd r hn
    exact .inr (.inl ⟨rfl, x, y, r, rfl, rfl, rfl⟩)
  · rw [sel_al] at h; cases h
    obtain ⟨y, r, rfl⟩ := nd r hn
    exact .inr (.inr (.inl ⟨rfl, y, r, rfl, rfl, rfl⟩))
  · rw [sel_am] at h; cases h
    obtain ⟨y, r, rfl⟩ := nd r hn
    exact .inr (.inr (.inr ⟨rfl, y, r, rfl, rfl, rfl⟩))
  · rw [en] at h; cases h
  · rw [en] at h; cases h
section
variable {P : Program} {w : World} {K : PySem.W.Frag} {mg : Str → Option Value} {base : Heap}
theorem ok_is_digitX {f : Addr} {fd : FuncData} {tk : PySem.Tok} (F : Fun K "is_digit" "is_digit" s_is_digit f fd) (g : Bi mg) (mDIG : mg "DIGITS" = some (.str DIG tk)) : FnOk P w K mg base CX0 1 f fd ["text"] spIsDigitX := by
  refine F.ok sc_is_digit (fun vs H Q E h => ?_) (fun cdv A outer s H vs Q E hr h => ?_)
  · obtain ⟨_, rfl, _⟩ := h
    rfl
  · obtain ⟨z, rfl, hz, k⟩ := h
    refine ⟨_, (pss_one (ps_ret (pe_and (pe_cmpR op_eq (pe_callB call_len_str (by rfl) g.len PySem.boot_len (pa_cons (pv 0) pa_nil)) pe_int (nomark _)) (pe_one (pe_cmpR op_in_sign (pv 0) (pe_glob (v := .str DIG) rfl mDIG ⟨_, rfl⟩) (by rfl)))))), ?_⟩
    have hz' : z.length ≤ sizeLine := Nat.le_trans hz (by decide)
    by_cases e : z.length = 1
    · obtain ⟨c, rfl⟩ : ∃ c, z = ⟨#[c]⟩ := by
        have ez := tx_of z
        have hl : z.cps.toList.length = 1 := by rw [Array.length_toList]; exact e
        obtain ⟨c, ec⟩ := List.length_eq_one_iff.mp hl
        exact ⟨c, by rw [ez, ec]⟩
      refine ⟨_, rfl, _, rfl, hz', rfl, true, congrArg V.bl (decide_eq_true rfl), iteT ?_⟩
      exact ⟨_, rfl, _, _, rfl, rfl, k⟩
    · rw [digB_len e] at k
      refine ⟨_, rfl, _, rfl, hz', rfl, false, congrArg V.bl (decide_eq_false fun q => e (by have := V.int.inj q; omega)), iteF k⟩
theorem ok_read_kindsX {f fIw : Addr} {fd fdIw : FuncData} (F : Fun K "read_kinds" "read_kinds" s_read_kinds f fd) (g : Bi mg) (FIw : Def P w K mg base CX0 1 "is_word" ["thing"] (spIsWord K) fIw fdIw) : FnOk P w K mg base CX0 2 f fd ["names"] spReadKindsX := by
  obtain ⟨GIw, mIw, _, bIw⟩ := id FIw
  refine F.ok sc_read_kinds (fun vs H Q E h => ?_) (fun cdv A outer s H vs Q E hr h => ?_)
  · obtain ⟨_, _, rfl, _⟩ := h
    rfl
  · obtain ⟨a, zs, rfl, ha, hl, hz, k0, k1⟩ := h
    have hrIw : Room 1 _ := hr
    obtain ⟨hs0, hs1⟩ := step_len zs.length hl
    have hev : (evs zs).length ≤ 20 := Nat.le_trans (pick_len _ _) hs0
    have hod : (ods zs).length ≤ 20 := Nat.le_trans (pick_len _ _) hs1
    have e0 : stepV (zs.map V.str) (some 0) none (some 2) = (evs zs).map V.str := stepV_str _ _ _ _
    have e1 : stepV (zs.map V.str) (some 1) none (some 2) = (ods zs).map V.str := stepV_str _ _ _ _
    refine ⟨_, (pss_cons (ps_set (i := 1) sc_read_kinds.nd rfl (Or.inl rfl) (pe_and (pe_cmpR op_eq (pe_op op_mod (pe_callB call_len (by rfl) g.len PySem.boot_len (pa_cons (pv 0) pa_nil)) pe_int) pe_int (nomark _)) (pe_one (pe_callB (cr_all rfl) (by rfl) g.all (by decide +kernel) (pa_cons (pe_lc (own := [("name", 2)]) (g := gName 2)  (by rfl) sc_read_kinds.nd (pi_list (pe_slice3 (pv 0) (po_some pe_int) po_none (po_some pe_int))) (blkOk_by (own := [("name", 2)]) (N := ["names", "good", "name"]) (sc := defScope s_read_kinds) (by decide +kernel)) (fun _ _ _ _ _ => (pg_name (i := 2) sc_read_kinds.nd rfl (Or.inl rfl))) (fun _ _ _ _ _ => pts_nil) (fun _ _ _ _ _ => (pe_cmpR op_eq (pv 2) pe_str (nomark _)))) pa_nil)))))
      (pss_cons (ps_if (PW.pt (pw_and (pt_val (pv 1)) (pw_and1 (pt_val (pe_callB (cr_all rfl) (by rfl) g.all (by decide +kernel) (pa_cons (pe_lc (own := [("name", 2)]) (g := gName 2)  (by rfl) sc_read_kinds.nd (pi_list (pe_slice3 (pv 0) (po_some pe_int) po_none (po_some pe_int))) (blkOk_by (own := [("name", 2)]) (N := ["names", "good", "name"]) (sc := defScope s_read_kinds) (by decide +kernel)) (fun _ _ _ _ _ => (pg_name (i := 2) sc_read_kinds.nd rfl (Or.inl rfl))) (fun _ _ _ _ _ => pts_nil) (fun _ _ _ _ _ => (pe_call GIw hrIw rfl mIw FIw.kp bIw .nil pass0 (pa_cons (pv 2) pa_nil)))) pa_nil)))))) (pss_one (ps_ret (pe_slice3 (pv 0) (po_some pe_int) po_none (po_some pe_int)))) pss_nil)
      (pss_one (ps_ret pe_non)))), ?_⟩
    refine ⟨_, rfl, _, _, rfl, .inl ⟨_, SqL.of ha, rfl⟩, _, _, rfl, rfl, by show (0 : Int) < 2; decide, rfl, _, rfl, ?_⟩
    by_cases c1 : zs.length % 2 = 1
    case neg =>
      rw [List.length_map, decide_eq_false (show ¬ V.int ((zs.length : Int) % 2) = V.int 1 from fun q => c1 (by have := V.int.inj q; omega))]
      refine iteF ⟨_, rfl, _, rfl, iteF ?_⟩
      exact k0 (by unfold okN; rw [decide_eq_false c1]; rfl) H (Same.refl H)
    rw [List.length_map, decide_eq_true (show V.int ((zs.length : Int) % 2) = V.int 1 by rw [show (zs.length : Int) % 2 = 1 by omega])]
    refine iteT ?_
    refine ⟨_, rfl, _, rfl, _, rfl, a, _, rfl, SqL.of ha, by decide, ?_, fun n1 hn1 => ?_⟩
    · rw [e1, List.length_map]
      exact Nat.le_trans hod (by decide)
    rw [e1]
    have s1 : Same H (upd H n1 (.lst ((ods zs).map V.str))) := Same.new hn1
    have g1 : (upd H n1 (.lst ((ods zs).map V.str))) n1 = some (.lst ((ods zs).map V.str)) := upd_same
    generalize upd H n1 (.lst ((ods zs).map V.str)) = H1 at s1 g1
    refine ⟨n1, rfl, ⟨_, SqL.of g1⟩, fun D hD => lc_vals (ys := (ods zs).map fun z => V.bl (decide (z = (("+" : String) : Str)))) (by rw [List.length_map, List.length_map]) g1 hD (by rw [List.length_map]; omega) (fun _ => rfl) (fun i x y hx hy H' s' Qe qk => ?_) fun H2 s2 hD2 => ?_⟩
    · rw [List.getElem?_map] at hx hy
      cases e : (ods zs)[i]? with
      | none => rw [e] at hx; cases hx
      | some z =>
        rw [e] at hx hy
        obtain rfl := Option.some.inj hx
        obtain rfl := Option.some.inj hy
        refine ⟨_, rfl, rfl, ?_⟩
        have q : Qe (V.bl (decide (z = (("+" : String) : Str)))) H' := qk _ (Same.refl H')
        rw [show decide (z = (("+" : String) : Str)) = decide (V.str z = V.str (("+" : String) : Str)) from by congr 1; exact propext ⟨fun h => by rw [h], fun h => V.str.inj h⟩] at q
        exact q
    refine ⟨D, (ods zs).map fun z => decide (z = (("+" : String) : Str)), rfl, SqL.of (by rw [hD2, List.map_map]; rfl), ?_⟩
    have ea : ((ods zs).map fun z => decide (z = (("+" : String) : Str))).all id = (ods zs).all fun z => decide (z = (("+" : String) : Str)) := by rw [List.all_map]; rfl
    rw [ea]
    have s12 := s1.trans s2
    cases c2 : (ods zs).all fun z => decide (z = (("+" : String) : Str)) with
    | false =>
      refine ⟨_, rfl, _, rfl, iteF ?_⟩
      exact k0 (by unfold okN; rw [c2, Bool.and_false, Bool.false_and]) _ s12
    | true =>
    refine ⟨_, rfl, _, rfl, iteT ?_⟩
    refine ⟨_, rfl, _, rfl, _, rfl, a, _, rfl, SqL.of (s12 _ _ ha), by decide, ?_, fun n2 hn2 => ?_⟩
    · rw [e0, List.length_map]
      exact Nat.le_trans hev (by decide)
    rw [e0]
    have s3 : Same H2 (upd H2 n2 (.lst ((evs zs).map V.str))) := Same.new hn2
    have g3 : (upd H2 n2 (.lst ((evs zs).map V.str))) n2 = some (.lst ((evs zs).map V.str)) := upd_same
    generalize upd H2 n2 (.lst ((evs zs).map V.str)) = H3 at s3 g3
    refine ⟨n2, rfl, ⟨_, SqL.of g3⟩, fun D hD => lc_vals (ys := (evs zs).map fun z => V.bl (wordB z)) (by rw [List.length_map, List.length_map]) g3 hD (by rw [List.length_map]; omega) (fun _ => rfl) (fun i x y hx hy H' s' Qe qk => ?_) fun H4 s4 hD4 => ?_⟩
    · rw [List.getElem?_map] at hx hy
      cases e : (evs zs)[i]? with
      | none => rw [e] at hx; cases hx
      | some z =>
        rw [e] at hx hy
        obtain rfl := Option.some.inj hx
        obtain rfl := Option.some.inj hy
        exact ⟨_, rfl, .inl ⟨z, rfl, Nat.le_trans (hz z (pick_mem (List.mem_of_getElem? e))) (by decide), fun H2 s2 => qk H2 s2⟩⟩
    refine ⟨D, (evs zs).map wordB, rfl, SqL.of (by rw [hD4, List.map_map]; rfl), ?_⟩
    have eb : ((evs zs).map wordB).all id = (evs zs).all wordB := by rw [List.all_map]; rfl
    rw [eb]
    have s14 := (s12.trans s3).trans s4
    cases c3 : (evs zs).all wordB with
    | false =>
      refine ⟨_, rfl, iteF ?_⟩
      exact k0 (by unfold okN; rw [c3, Bool.and_false]) _ s14
    | true =>
    refine ⟨_, rfl, iteT ?_⟩
    refine ⟨_, rfl, _, rfl, _, rfl, a, _, rfl, SqL.of (s14 _ _ ha), by decide, ?_, fun n3 hn3 => ?_⟩
    · rw [e0, List.length_map]
      exact Nat.le_trans hev (by decide)
    rw [e0]
    exact k1 (by unfold okN; rw [decide_eq_true c1, c2, c3]; rfl) n3 _ (s14.free hn3) (s14.trans (Same.new hn3)) upd_same
theorem ok_readX {f fDg fRk B fE : Addr} {fd fdDg fdRk fdE : FuncData} {a : RAd} (F : Fun K "read_rule" "read_rule" s_read_rule f fd) (g : Bi mg) (W : RMx P w K mg base a B) (XB : XDef P w K mg base "BadRule" B fE "what" ["self", "what"] fdE) (FDg : Def P w K mg base CX0 1 "is_digit" ["text"] spIsDigitX fDg fdDg) (FRk : Def P w K mg base CX0 2 "read_kinds" ["names"] spReadKindsX fRk fdRk) :
    FnOk P w K mg base (L2.CX P w) 9 f fd ["text"] (spReadX B) := by
  obtain ⟨fL, mkL, iL⟩ := W.al
  obtain ⟨fM, mkM, iM⟩ := W.am
  obtain ⟨fB, mkB, iB⟩ := W.bt
  obtain ⟨fX, mkX, iX⟩ := W.ex
  have Wo := W.wo
  obtain ⟨GDg, mDg, _, bDg⟩ := id FDg
  obtain ⟨GRk, mRk, _, bRk⟩ := id FRk
  refine F.okX sc_read_rule (fun vs H Q E h => ?_) (fun cdv A outer s H vs Q E hr h => ?_)
  · obtain ⟨_, rfl, _⟩ := h
    rfl
  · obtain ⟨v, rfl, h⟩ := h
    have hrMk : Room 8 _ := hr
    have hrX : Room 2 _ := hr.mono (by decide)
    have hrDg : Room 1 _ := hr.mono (by decide)
    have hrRk : Room 2 _ := hr.mono (by decide)
    refine ⟨_, (pss_cons (ps_if (pt_not (pt_val (pe_callB call_isi (by rfl) g.isinstance (by decide +kernel) (pa_cons (pv 0) (pa_cons (pe_bltn (v := .ty "str") (by rfl) g.str (by decide +kernel) rfl) pa_nil))))) (pss_one (ps_raise rfl (takes_of rfl rfl rfl rfl) (pmk_oex XB.c XB.iC XB.tI XB.ok hrX XB.b .nil pass0 rfl XB.mg_ (pa_cons pe_str pa_nil)))) pss_nil)
      (pss_cons (ps_set (i := 1) sc_read_rule.nd rfl (Or.inl rfl) (pe_split (pv 0) pe_str))
      (C8.pss_cut (ps_if (pt_cmpR (op_eqD hr.units) (pe_slice sl_list (pv 1) po_none (po_some pe_int)) (pe_lst (pa_cons pe_str pa_nil)) (nomark _)) (pss_one (ps_par (i := 2) (j := 3) rfl sc_read_rule.nd rfl rfl (by decide) rfl rfl (pa_cons (pe_slice sl_list (pv 1) (po_some pe_int) (po_some pe_int)) (pa_cons (pe_slice sl_list (pv 1) (po_some pe_int) po_none) pa_nil)) (by rfl))) (pss_one (ps_if (PW.pt (pw_and (pt_cmpR (op_eqD hr.units) (pe_slice sl_list (pv 1) po_none (po_some pe_int)) (pe_lst (pa_cons pe_str pa_nil)) (nomark _)) (pw_and1 (pt_cmpR (op_eqD hr.units) (pe_slice sl_list (pv 1) (po_some pe_int) (po_some pe_int)) (pe_lst (pa_cons pe_str pa_nil)) (nomark _))))) (pss_one (ps_par (i := 2) (j := 3) rfl sc_read_rule.nd rfl rfl (by decide) rfl rfl (pa_cons (pe_op op_cat (pe_lst (pa_cons (pe_ix ix_list (pv 1) pe_int (fun _ _ => rfl)) pa_nil)) (pe_slice sl_list (pv 1) (po_some pe_int) (po_some pe_int))) (pa_cons (pe_slice sl_list (pv 1) (po_some pe_int) po_none) pa_nil)) (by rfl))) (pss_cons (ps_par (i := 2) (j := 3) rfl sc_read_rule.nd rfl rfl (by decide) rfl rfl (pa_cons (pe_slice sl_list (pv 1) (po_some pe_int) (po_some pe_int)) (pa_cons (pe_slice sl_list (pv 1) (po_some pe_int) po_none) pa_nil)) (by rfl))
      (pss_one (ps_if (PW.pt (pw_and (pt_cmpR (op_neD hr.units) (pe_slice sl_list (pv 1) po_none (po_some pe_int)) (pe_lst (pa_cons pe_str (pa_cons pe_str pa_nil))) (nomark _)) (pw_and1 (pt_cmpR (op_neD hr.units) (pe_slice sl_list (pv 1) po_none (po_some pe_int)) (pe_lst (pa_cons pe_str (pa_cons pe_str pa_nil))) (nomark _))))) (pss_one (ps_raise rfl (takes_of rfl rfl rfl rfl) (pmk_oex XB.c XB.iC XB.tI XB.ok hrX XB.b .nil pass0 rfl XB.mg_ (pa_cons pe_str pa_nil)))) pss_nil))))))
      (pss_cons (ps_set (i := 4) sc_read_rule.nd rfl (Or.inl rfl) (pe_call GRk hrRk rfl mRk FRk.kp bRk .nil pass0 (pa_cons (pv 3) pa_nil)))
      (pss_cons (ps_if (PW.pt (pw_or (pt_cmpR op_isN (pv 4) pe_non (nomark _)) (pw_or1 (pt_not (pt_val (pe_callB (cr_all rfl) (by rfl) g.all (by decide +kernel) (pa_cons (pe_lc (own := [("digit", 6)]) (g := gName 6)  (by rfl) sc_read_rule.nd (pi_list (pv 2)) (blkOk_by (own := [("digit", 6)]) (N := ["text", "words", "digits", "names", "kinds", "numbers", "digit"]) (sc := defScope s_read_rule) (by decide +kernel)) (fun _ _ _ _ _ => (pg_name (i := 6) sc_read_rule.nd rfl (Or.inl rfl))) (fun _ _ _ _ _ => pts_nil) (fun _ _ _ _ _ => (pe_call GDg hrDg rfl mDg FDg.kp bDg .nil pass0 (pa_cons (pv 6) pa_nil)))) pa_nil))))))) (pss_one (ps_raise rfl (takes_of rfl rfl rfl rfl) (pmk_oex XB.c XB.iC XB.tI XB.ok hrX XB.b .nil pass0 rfl XB.mg_ (pa_cons pe_str pa_nil)))) pss_nil)
      (pss_cons (ps_setLc (i := 5) (own := [("digit", 6)]) (g := gName 6)  (by rfl) sc_read_rule.nd rfl rfl (sw_true rfl rfl rfl (by decide +kernel)) (pi_list (pv 2)) (blkOk_by (own := [("digit", 6)]) (N := ["text", "words", "digits", "names", "kinds", "numbers", "digit"]) (sc := defScope s_read_rule) (by decide +kernel)) (fun _ _ _ _ _ => (pg_name (i := 6) sc_read_rule.nd rfl (Or.inl rfl))) (fun _ _ _ _ _ => pts_nil) (fun _ _ _ _ _ => (pe_callTy call_int_str (by rfl) g.int (by decide +kernel) (pa_cons (pv 6) pa_nil))))
      (pss_cons (ps_if (pt_cmpR op_eq (pe_ix ix_list (pv 1) pe_int (fun _ _ => rfl)) pe_str (nomark _)) (pss_one (ps_ret (pe_mkM mkX iX hrMk rfl Wo.mex (passes_call (takes_of rfl rfl rfl rfl) fun _ _ _ _ h => h) (pa_cons (pe_ix ix_list (pv 5) pe_int (fun _ _ => rfl)) (StX.pa_star (pv 4) pa_nil))))) pss_nil)
      (pss_cons (ps_if (pt_cmpR op_eq (pe_ix ix_list (pv 1) pe_int (fun _ _ => rfl)) pe_str (nomark _)) (pss_one (ps_ret (pe_mkM mkB iB hrMk rfl Wo.mbt (passes_call (takes_of rfl rfl rfl rfl) fun _ _ _ _ h => h) (pa_cons (pe_ix ix_list (pv 5) pe_int (fun _ _ => rfl)) (pa_cons (pe_ix ix_list (pv 5) pe_int (fun _ _ => rfl)) (StX.pa_star (pv 4) pa_nil)))))) pss_nil)
      (pss_cons (ps_if (pt_cmpR op_eq (pe_ix ix_list (pv 1) pe_int (fun _ _ => rfl)) pe_str (nomark _)) (pss_one (ps_ret (pe_mkM mkL iL hrMk rfl Wo.mal (passes_call (takes_of rfl rfl rfl rfl) fun _ _ _ _ h => h) (pa_cons (pe_ix ix_list (pv 5) pe_int (fun _ _ => rfl)) (StX.pa_star (pv 4) pa_nil))))) pss_nil)
      (pss_one (ps_ret (pe_mkM mkM iM hrMk rfl Wo.mam (passes_call (takes_of rfl rfl rfl rfl) fun _ _ _ _ h => h) (pa_cons (pe_ix ix_list (pv 5) pe_int (fun _ _ => rfl)) (StX.pa_star (pv 4) pa_nil)))))))))))))), ?_⟩
    rcases h with ⟨hv, hn, k⟩ | ⟨ws, hT, rfl, kT, kR⟩
    · obtain ⟨ty, ht, hk⟩ := hv.notStr (K := K) hn
      exact ⟨_, rfl, _, _, _, _, false, rfl, .ty "str", ht, kit_ty hk, _, rfl, iteT (xmk fun dd hdd => k H dd (Same.refl H) hdd)⟩
    refine ⟨_, rfl, _, _, _, _, true, rfl, .ty "str", .base (.str _), kit_ty (by decide +kernel), _, rfl, iteF ?_⟩
    refine ⟨_, rfl, ⟨_, rfl⟩, _, _, rfl, rfl, rfl, ?_, fun wl hwl => ?_⟩
    · have := hT.jlen
      exact Nat.le_trans (show _ ≤ 9000 by omega) (by decide)
    rw [hT.split]
    have s1 : Same H (upd H wl (.lst (ws.map V.str))) := Same.new hwl
    have g1 : (upd H wl (.lst (ws.map V.str))) wl = some (.lst (ws.map V.str)) := upd_same
    generalize upd H wl (.lst (ws.map V.str)) = H1 at s1 g1
    have ok : ∀ z ∈ ws, PyData.strOk z = true := fun z m => (hT.tok z m).ok
    have okt : ∀ n, ∀ z ∈ ws.take n, PyData.strOk z = true := fun n z m => ok z (List.mem_of_mem_take m)
    have okd : ∀ n m, ∀ z ∈ (ws.take n).drop m, PyData.strOk z = true := fun n m z h => okt n z (List.mem_of_mem_drop h)
    have hlen := hT.len
    refine ⟨fun σ H' => ∃ (dl nl : Addr) (c : RCl) (ds ns : List Str), σ = [some (.str (Txt.join " " ws)), some (.ref wl), some (.ref dl), some (.ref nl), none, none, none] ∧ H' dl = some (.lst (ds.map V.str)) ∧ H' nl = some (.lst (ns.map V.str)) ∧ H' wl = some (.lst (ws.map V.str)) ∧ Same H H' ∧ selT ws = some (c, ds, ns), ?_, ?_⟩
    · rcases sel_cases hT.ne with ⟨r, ew⟩ | ⟨x, r, ew⟩ | ⟨r, ew⟩ | ⟨r, ew⟩ | ⟨en, r, ew, e3⟩ | ⟨en, z, r, ew, e1, e2, e3, e4⟩
      · have sl := sel_ex r
        rw [← ew] at sl
        refine ⟨_, rfl, _, rfl, wl, _, rfl, SqL.of g1, fun p1 hp1 => ?_⟩
        rw [cutSn1]
        have t1 : Same H1 (upd H1 p1 (.lst ((ws.take 1).map V.str))) := Same.new hp1
        have d1 : (upd H1 p1 (.lst ((ws.take 1).map V.str))) p1 = some (.lst ((ws.take 1).map V.str)) := upd_same
        generalize upd H1 p1 (.lst ((ws.take 1).map V.str)) = G1 at t1 d1
        have u1 := t1
        refine ⟨by show 1 ≤ sizeLine; decide, fun p2 hp2 => ?_⟩
        have t2 : Same G1 (upd G1 p2 (.lst [.str "exactly"])) := Same.new hp2
        have d2 : (upd G1 p2 (.lst [.str "exactly"])) p2 = some (.lst [.str "exactly"]) := upd_same
        generalize upd G1 p2 (.lst [.str "exactly"]) = G2 at t2 d2
        have u2 := u1.trans t2
        refine eqT_go (zs := ws.take 1) (ws := ["exactly"]) (t2 _ _ d1) d2 (okt 1) (okl1 so_exactly) ?_
        rw [decide_eq_true (show ws.take 1 = (["exactly"] : List Str) from by rw [ew]; rfl)]
        refine ⟨_, rfl, iteT ?_⟩
        refine ⟨_, rfl, _, rfl, _, rfl, wl, _, rfl, SqL.of (u2 _ _ g1), fun p3 hp3 => ?_⟩
        rw [cutS12]
        have t3 : Same G2 (upd G2 p3 (.lst (((ws.take 2).drop 1).map V.str))) := Same.new hp3
        have d3 : (upd G2 p3 (.lst (((ws.take 2).drop 1).map V.str))) p3 = some (.lst (((ws.take 2).drop 1).map V.str)) := upd_same
        generalize upd G2 p3 (.lst (((ws.take 2).drop 1).map V.str)) = G3 at t3 d3
        have u3 := u2.trans t3
        refine ⟨_, rfl, _, rfl, wl, _, rfl, SqL.of (u3 _ _ g1), fun p4 hp4 => ?_⟩
        rw [cutS2n]
        have t4 : Same G3 (upd G3 p4 (.lst ((ws.drop 2).map V.str))) := Same.new hp4
        have d4 : (upd G3 p4 (.lst ((ws.drop 2).map V.str))) p4 = some (.lst ((ws.drop 2).map V.str)) := upd_same
        generalize upd G3 p4 (.lst ((ws.drop 2).map V.str)) = G4 at t4 d4
        have u4 := u3.trans t4
        refine ⟨_, _, rfl, ?_⟩
        exact ⟨p3, p4, .ex, r.take 1, r.drop 1, rfl, by rw [(t4 _ _ d3), ew]; rfl, by rw [d4, ew]; rfl, (u4 _ _ g1), s1.trans u4, sl⟩
      · have sl := sel_bt x r
        rw [← ew] at sl
        refine ⟨_, rfl, _, rfl, wl, _, rfl, SqL.of g1, fun p1 hp1 => ?_⟩
        rw [cutSn1]
        have t1 : Same H1 (upd H1 p1 (.lst ((ws.take 1).map V.str))) := Same.new hp1
        have d1 : (upd H1 p1 (.lst ((ws.take 1).map V.str))) p1 = some (.lst ((ws.take 1).map V.str)) := upd_same
        generalize upd H1 p1 (.lst ((ws.take 1).map V.str)) = G1 at t1 d1
        have u1 := t1
        refine ⟨by show 1 ≤ sizeLine; decide, fun p2 hp2 => ?_⟩
        have t2 : Same G1 (upd G1 p2 (.lst [.str "exactly"])) := Same.new hp2
        have d2 : (upd G1 p2 (.lst [.str "exactly"])) p2 = some (.lst [.str "exactly"]) := upd_same
        generalize upd G1 p2 (.lst [.str "exactly"]) = G2 at t2 d2
        have u2 := u1.trans t2
        refine eqT_go (zs := ws.take 1) (ws := ["exactly"]) (t2 _ _ d1) d2 (okt 1) (okl1 so_exactly) ?_
        rw [decide_eq_false (show ¬ ws.take 1 = (["exactly"] : List Str) from by rw [ew]; show ¬ ([(("from" : String) : Str)] : List Str) = ([(("exactly" : String) : Str)] : List Str); decide +kernel)]
        refine ⟨_, rfl, iteF ?_⟩
        refine ⟨_, rfl, _, rfl, wl, _, rfl, SqL.of (u2 _ _ g1), fun p3 hp3 => ?_⟩
        rw [cutSn1]
        have t3 : Same G2 (upd G2 p3 (.lst ((ws.take 1).map V.str))) := Same.new hp3
        have d3 : (upd G2 p3 (.lst ((ws.take 1).map V.str))) p3 = some (.lst ((ws.take 1).map V.str)) := upd_same
        generalize upd G2 p3 (.lst ((ws.take 1).map V.str)) = G3 at t3 d3
        have u3 := u2.trans t3
        refine ⟨by show 1 ≤ sizeLine; decide, fun p4 hp4 => ?_⟩
        have t4 : Same G3 (upd G3 p4 (.lst [.str "from"])) := Same.new hp4
        have d4 : (upd G3 p4 (.lst [.str "from"])) p4 = some (.lst [.str "from"]) := upd_same
        generalize upd G3 p4 (.lst [.str "from"]) = G4 at t4 d4
        have u4 := u3.trans t4
        refine eqT_go (zs := ws.take 1) (ws := ["from"]) (t4 _ _ d3) d4 (okt 1) (okl1 so_from) ?_
        rw [decide_eq_true (show ws.take 1 = (["from"] : List Str) from by rw [ew]; rfl)]
        refine ⟨_, rfl, iteT ?_⟩
        refine ⟨_, rfl, _, rfl, _, rfl, wl, _, rfl, SqL.of (u4 _ _ g1), fun p5 hp5 => ?_⟩
        rw [cutS23]
        have t5 : Same G4 (upd G4 p5 (.lst (((ws.take 3).drop 2).map V.str))) := Same.new hp5
        have d5 : (upd G4 p5 (.lst (((ws.take 3).drop 2).map V.str))) p5 = some (.lst (((ws.take 3).drop 2).map V.str)) := upd_same
        generalize upd G4 p5 (.lst (((ws.take 3).drop 2).map V.str)) = G5 at t5 d5
        have u5 := u4.trans t5
        refine ⟨by show 1 ≤ sizeLine; decide, fun p6 hp6 => ?_⟩
        have t6 : Same G5 (upd G5 p6 (.lst [.str "to"])) := Same.new hp6
        have d6 : (upd G5 p6 (.lst [.str "to"])) p6 = some (.lst [.str "to"]) := upd_same
        generalize upd G5 p6 (.lst [.str "to"]) = G6 at t6 d6
        have u6 := u5.trans t6
        refine eqT_go (zs := (ws.take 3).drop 2) (ws := ["to"]) (t6 _ _ d5) d6 (okd 3 2) (okl1 so_to) ?_
        rw [decide_eq_true (show (ws.take 3).drop 2 = (["to"] : List Str) from by rw [ew]; rfl)]
        refine ⟨_, rfl, iteT ?_⟩
        refine ⟨_, rfl, wl, _, _, _, rfl, rfl, SqL.of (u6 _ _ g1), at_of (z := 1) (j := 1) (v := .str x) (by omega) (by rw [ew]; rfl), ?_⟩
        refine ⟨by show 1 ≤ sizeLine; decide, fun p7 hp7 => ?_⟩
        have t7 : Same G6 (upd G6 p7 (.lst [.str x])) := Same.new hp7
        have d7 : (upd G6 p7 (.lst [.str x])) p7 = some (.lst [.str x]) := upd_same
        generalize upd G6 p7 (.lst [.str x]) = G7 at t7 d7
        have u7 := u6.trans t7
        refine ⟨_, rfl, _, rfl, _, rfl, wl, _, rfl, SqL.of (u7 _ _ g1), fun p8 hp8 => ?_⟩
        rw [cutS34]
        have t8 : Same G7 (upd G7 p8 (.lst (((ws.take 4).drop 3).map V.str))) := Same.new hp8
        have d8 : (upd G7 p8 (.lst (((ws.take 4).drop 3).map V.str))) p8 = some (.lst (((ws.take 4).drop 3).map V.str)) := upd_same
        generalize upd G7 p8 (.lst (((ws.take 4).drop 3).map V.str)) = G8 at t8 d8
        have u8 := u7.trans t8
        refine ⟨p7, p8, _, _, rfl, rfl, t8 _ _ d7, d8, ?_, fun p9 hp9 => ?_⟩
        · rw [List.length_map, List.length_drop, List.length_take]
          exact Nat.le_trans (show 1 + (min 4 ws.length - 3) ≤ 100 by omega) (by decide)
        have t9 : Same G8 (upd G8 p9 (.lst ([.str x] ++ ((ws.take 4).drop 3).map V.str))) := Same.new hp9
        have d9 : (upd G8 p9 (.lst ([.str x] ++ ((ws.take 4).drop 3).map V.str))) p9 = some (.lst ([.str x] ++ ((ws.take 4).drop 3).map V.str)) := upd_same
        generalize upd G8 p9 (.lst ([.str x] ++ ((ws.take 4).drop 3).map V.str)) = G9 at t9 d9
        have u9 := u8.trans t9
        refine ⟨_, rfl, _, rfl, wl, _, rfl, SqL.of (u9 _ _ g1), fun p10 hp10 => ?_⟩
        rw [cutS4n]
        have t10 : Same G9 (upd G9 p10 (.lst ((ws.drop 4).map V.str))) := Same.new hp10
        have d10 : (upd G9 p10 (.lst ((ws.drop 4).map V.str))) p10 = some (.lst ((ws.drop 4).map V.str)) := upd_same
        generalize upd G9 p10 (.lst ((ws.drop 4).map V.str)) = G10 at t10 d10
        have u10 := u9.trans t10
        refine ⟨_, _, rfl, ?_⟩
        exact ⟨p9, p10, .bt, x :: r.take 1, r.drop 1, rfl, by rw [(t10 _ _ d9), ew]; rfl, by rw [d10, ew]; rfl, (u10 _ _ g1), s1.trans u10, sl⟩
      · have sl := sel_al r
        rw [← ew] at sl
        refine ⟨_, rfl, _, rfl, wl, _, rfl, SqL.of g1, fun p1 hp1 => ?_⟩
        rw [cutSn1]
        have t1 : Same H1 (upd H1 p1 (.lst ((ws.take 1).map V.str))) := Same.new hp1
        have d1 : (upd H1 p1 (.lst ((ws.take 1).map V.str))) p1 = some (.lst ((ws.take 1).map V.str)) := upd_same
        generalize upd H1 p1 (.lst ((ws.take 1).map V.str)) = G1 at t1 d1
        have u1 := t1
        refine ⟨by show 1 ≤ sizeLine; decide, fun p2 hp2 => ?_⟩
        have t2 : Same G1 (upd G1 p2 (.lst [.str "exactly"])) := Same.new hp2
        have d2 : (upd G1 p2 (.lst [.str "exactly"])) p2 = some (.lst [.str "exactly"]) := upd_same
        generalize upd G1 p2 (.lst [.str "exactly"]) = G2 at t2 d2
        have u2 := u1.trans t2
        refine eqT_go (zs := ws.take 1) (ws := ["exactly"]) (t2 _ _ d1) d2 (okt 1) (okl1 so_exactly) ?_
        rw [decide_eq_false (show ¬ ws.take 1 = (["exactly"] : List Str) from by rw [ew]; show ¬ ([(("at" : String) : Str)] : List Str) = ([(("exactly" : String) : Str)] : List Str); decide +kernel)]
        refine ⟨_, rfl, iteF ?_⟩
        refine ⟨_, rfl, _, rfl, wl, _, rfl, SqL.of (u2 _ _ g1), fun p3 hp3 => ?_⟩
        rw [cutSn1]
        have t3 : Same G2 (upd G2 p3 (.lst ((ws.take 1).map V.str))) := Same.new hp3
        have d3 : (upd G2 p3 (.lst ((ws.take 1).map V.str))) p3 = some (.lst ((ws.take 1).map V.str)) := upd_same
        generalize upd G2 p3 (.lst ((ws.take 1).map V.str)) = G3 at t3 d3
        have u3 := u2.trans t3
        refine ⟨by show 1 ≤ sizeLine; decide, fun p4 hp4 => ?_⟩
        have t4 : Same G3 (upd G3 p4 (.lst [.str "from"])) := Same.new hp4
        have d4 : (upd G3 p4 (.lst [.str "from"])) p4 = some (.lst [.str "from"]) := upd_same
        generalize upd G3 p4 (.lst [.str "from"]) = G4 at t4 d4
        have u4 := u3.trans t4
        refine eqT_go (zs := ws.take 1) (ws := ["from"]) (t4 _ _ d3) d4 (okt 1) (okl1 so_from) ?_
        rw [decide_eq_false (show ¬ ws.take 1 = (["from"] : List Str) from by rw [ew]; show ¬ ([(("at" : String) : Str)] : List Str) = ([(("from" : String) : Str)] : List Str); decide +kernel)]
        refine ⟨_, rfl, iteF ?_⟩
        refine ⟨_, rfl, _, rfl, _, rfl, wl, _, rfl, SqL.of (u4 _ _ g1), fun p5 hp5 => ?_⟩
        rw [cutS23]
        have t5 : Same G4 (upd G4 p5 (.lst (((ws.take 3).drop 2).map V.str))) := Same.new hp5
        have d5 : (upd G4 p5 (.lst (((ws.take 3).drop 2).map V.str))) p5 = some (.lst (((ws.take 3).drop 2).map V.str)) := upd_same
        generalize upd G4 p5 (.lst (((ws.take 3).drop 2).map V.str)) = G5 at t5 d5
        have u5 := u4.trans t5
        refine ⟨_, rfl, _, rfl, wl, _, rfl, SqL.of (u5 _ _ g1), fun p6 hp6 => ?_⟩
        rw [cutS3n]
        have t6 : Same G5 (upd G5 p6 (.lst ((ws.drop 3).map V.str))) := Same.new hp6
        have d6 : (upd G5 p6 (.lst ((ws.drop 3).map V.str))) p6 = some (.lst ((ws.drop 3).map V.str)) := upd_same
        generalize upd G5 p6 (.lst ((ws.drop 3).map V.str)) = G6 at t6 d6
        have u6 := u5.trans t6
        refine ⟨_, _, rfl, ?_⟩
        refine ⟨_, rfl, _, rfl, wl, _, rfl, SqL.of (u6 _ _ g1), fun p7 hp7 => ?_⟩
        rw [cutSn2]
        have t7 : Same G6 (upd G6 p7 (.lst ((ws.take 2).map V.str))) := Same.new hp7
        have d7 : (upd G6 p7 (.lst ((ws.take 2).map V.str))) p7 = some (.lst ((ws.take 2).map V.str)) := upd_same
        generalize upd G6 p7 (.lst ((ws.take 2).map V.str)) = G7 at t7 d7
        have u7 := u6.trans t7
        refine ⟨by show 2 ≤ sizeLine; decide, fun p8 hp8 => ?_⟩
        have t8 : Same G7 (upd G7 p8 (.lst [.str "at", .str "least"])) := Same.new hp8
        have d8 : (upd G7 p8 (.lst [.str "at", .str "least"])) p8 = some (.lst [.str "at", .str "least"]) := upd_same
        generalize upd G7 p8 (.lst [.str "at", .str "least"]) = G8 at t8 d8
        have u8 := u7.trans t8
        refine neT_go (zs := ws.take 2) (ws := ["at", "least"]) (t8 _ _ d7) d8 (okt 2) (okl2 so_at so_least) ?_
        rw [decide_eq_true (show ws.take 2 = (["at", "least"] : List Str) from by rw [ew]; rfl)]
        refine ⟨_, rfl, iteF ?_⟩
        exact ⟨p5, p6, .al, r.take 1, r.drop 1, rfl, by rw [(t8 _ _ (t7 _ _ (t6 _ _ d5))), ew]; rfl, by rw [(t8 _ _ (t7 _ _ d6)), ew]; rfl, (u8 _ _ g1), s1.trans u8, sl⟩
      · have sl := sel_am r
        rw [← ew] at sl
        refine ⟨_, rfl, _, rfl, wl, _, rfl, SqL.of g1, fun p1 hp1 => ?_⟩
        rw [cutSn1]
        have t1 : Same H1 (upd H1 p1 (.lst ((ws.take 1).map V.str))) := Same.new hp1
        have d1 : (upd H1 p1 (.lst ((ws.take 1).map V.str))) p1 = some (.lst ((ws.take 1).map V.str)) := upd_same
        generalize upd H1 p1 (.lst ((ws.take 1).map V.str)) = G1 at t1 d1
        have u1 := t1
        refine ⟨by show 1 ≤ sizeLine; decide, fun p2 hp2 => ?_⟩
        have t2 : Same G1 (upd G1 p2 (.lst [.str "exactly"])) := Same.new hp2
        have d2 : (upd G1 p2 (.lst [.str "exactly"])) p2 = some (.lst [.str "exactly"]) := upd_same
        generalize upd G1 p2 (.lst [.str "exactly"]) = G2 at t2 d2
        have u2 := u1.trans t2
        refine eqT_go (zs := ws.take 1) (ws := ["exactly"]) (t2 _ _ d1) d2 (okt 1) (okl1 so_exactly) ?_
        rw [decide_eq_false (show ¬ ws.take 1 = (["exactly"] : List Str) from by rw [ew]; show ¬ ([(("at" : String) : Str)] : List Str) = ([(("exactly" : String) : Str)] : List Str); decide +kernel)]
        refine ⟨_, rfl, iteF ?_⟩
        refine ⟨_, rfl, _, rfl, wl, _, rfl, SqL.of (u2 _ _ g1), fun p3 hp3 => ?_⟩
        rw [cutSn1]
        have t3 : Same G2 (upd G2 p3 (.lst ((ws.take 1).map V.str))) := Same.new hp3
        have d3 : (upd G2 p3 (.lst ((ws.take 1).map V.str))) p3 = some (.lst ((ws.take 1).map V.str)) := upd_same
        generalize upd G2 p3 (.lst ((ws.take 1).map V.str)) = G3 at t3 d3
        have u3 := u2.trans t3
        refine ⟨by show 1 ≤ sizeLine; decide, fun p4 hp4 => ?_⟩
        have t4 : Same G3 (upd G3 p4 (.lst [.str "from"])) := Same.new hp4
        have d4 : (upd G3 p4 (.lst [.str "from"])) p4 = some (.lst [.str "from"]) := upd_same
        generalize upd G3 p4 (.lst [.str "from"]) = G4 at t4 d4
        have u4 := u3.trans t4
        refine eqT_go (zs := ws.take 1) (ws := ["from"]) (t4 _ _ d3) d4 (okt 1) (okl1 so_from) ?_
        rw [decide_eq_false (show ¬ ws.take 1 = (["from"] : List Str) from by rw [ew]; show ¬ ([(("at" : String) : Str)] : List Str) = ([(("from" : String) : Str)] : List Str); decide +kernel)]
        refine ⟨_, rfl, iteF ?_⟩
        refine ⟨_, rfl, _, rfl, _, rfl, wl, _, rfl, SqL.of (u4 _ _ g1), fun p5 hp5 => ?_⟩
        rw [cutS23]
        have t5 : Same G4 (upd G4 p5 (.lst (((ws.take 3).drop 2).map V.str))) := Same.new hp5
        have d5 : (upd G4 p5 (.lst (((ws.take 3).drop 2).map V.str))) p5 = some (.lst (((ws.take 3).drop 2).map V.str)) := upd_same
        generalize upd G4 p5 (.lst (((ws.take 3).drop 2).map V.str)) = G5 at t5 d5
        have u5 := u4.trans t5
        refine ⟨_, rfl, _, rfl, wl, _, rfl, SqL.of (u5 _ _ g1), fun p6 hp6 => ?_⟩
        rw [cutS3n]
        have t6 : Same G5 (upd G5 p6 (.lst ((ws.drop 3).map V.str))) := Same.new hp6
        have d6 : (upd G5 p6 (.lst ((ws.drop 3).map V.str))) p6 = some (.lst ((ws.drop 3).map V.str)) := upd_same
        generalize upd G5 p6 (.lst ((ws.drop 3).map V.str)) = G6 at t6 d6
        have u6 := u5.trans t6
        refine ⟨_, _, rfl, ?_⟩
        refine ⟨_, rfl, _, rfl, wl, _, rfl, SqL.of (u6 _ _ g1), fun p7 hp7 => ?_⟩
        rw [cutSn2]
        have t7 : Same G6 (upd G6 p7 (.lst ((ws.take 2).map V.str))) := Same.new hp7
        have d7 : (upd G6 p7 (.lst ((ws.take 2).map V.str))) p7 = some (.lst ((ws.take 2).map V.str)) := upd_same
        generalize upd G6 p7 (.lst ((ws.take 2).map V.str)) = G7 at t7 d7
        have u7 := u6.trans t7
        refine ⟨by show 2 ≤ sizeLine; decide, fun p8 hp8 => ?_⟩
        have t8 : Same G7 (upd G7 p8 (.lst [.str "at", .str "least"])) := Same.new hp8
        have d8 : (upd G7 p8 (.lst [.str "at", .str "least"])) p8 = some (.lst [.str "at", .str "least"]) := upd_same
        generalize upd G7 p8 (.lst [.str "at", .str "least"]) = G8 at t8 d8
        have u8 := u7.trans t8
        refine neT_go (zs := ws.take 2) (ws := ["at", "least"]) (t8 _ _ d7) d8 (okt 2) (okl2 so_at so_least) ?_
        rw [decide_eq_false (show ¬ ws.take 2 = (["at", "least"] : List Str) from by rw [ew]; show ¬ ([(("at" : String) : Str), (("most" : String) : Str)] : List Str) = ([(("at" : String) : Str), (("least" : String) : Str)] : List Str); decide +kernel)]
        refine ⟨_, rfl, iteT ?_⟩
        refine ⟨_, rfl, _, rfl, wl, _, rfl, SqL.of (u8 _ _ g1), fun p9 hp9 => ?_⟩
        rw [cutSn2]
        have t9 : Same G8 (upd G8 p9 (.lst ((ws.take 2).map V.str))) := Same.new hp9
        have d9 : (upd G8 p9 (.lst ((ws.take 2).map V.str))) p9 = some (.lst ((ws.take 2).map V.str)) := upd_same
        generalize upd G8 p9 (.lst ((ws.take 2).map V.str)) = G9 at t9 d9
        have u9 := u8.trans t9
        refine ⟨by show 2 ≤ sizeLine; decide, fun p10 hp10 => ?_⟩
        have t10 : Same G9 (upd G9 p10 (.lst [.str "at", .str "most"])) := Same.new hp10
        have d10 : (upd G9 p10 (.lst [.str "at", .str "most"])) p10 = some (.lst [.str "at", .str "most"]) := upd_same
        generalize upd G9 p10 (.lst [.str "at", .str "most"]) = G10 at t10 d10
        have u10 := u9.trans t10
        refine neT_go (zs := ws.take 2) (ws := ["at", "most"]) (t10 _ _ d9) d10 (okt 2) (okl2 so_at so_most) ?_
        rw [decide_eq_true (show ws.take 2 = (["at", "most"] : List Str) from by rw [ew]; rfl)]
        refine ⟨_, rfl, iteF ?_⟩
        exact ⟨p5, p6, .am, r.take 1, r.drop 1, rfl, by rw [(t10 _ _ (t9 _ _ (t8 _ _ (t7 _ _ (t6 _ _ d5))))), ew]; rfl, by rw [(t10 _ _ (t9 _ _ (t8 _ _ (t7 _ _ d6)))), ew]; rfl, (u10 _ _ g1), s1.trans u10, sl⟩
      · have er : readT ws = none := by unfold readT; rw [en]
        refine ⟨_, rfl, _, rfl, wl, _, rfl, SqL.of g1, fun p1 hp1 => ?_⟩
        rw [cutSn1]
        have t1 : Same H1 (upd H1 p1 (.lst ((ws.take 1).map V.str))) := Same.new hp1
        have d1 : (upd H1 p1 (.lst ((ws.take 1).map V.str))) p1 = some (.lst ((ws.take 1).map V.str)) := upd_same
        generalize upd H1 p1 (.lst ((ws.take 1).map V.str)) = G1 at t1 d1
        have u1 := t1
        refine ⟨by show 1 ≤ sizeLine; decide, fun p2 hp2 => ?_⟩
        have t2 : Same G1 (upd G1 p2 (.lst [.str "exactly"])) := Same.new hp2
        have d2 : (upd G1 p2 (.lst [.str "exactly"])) p2 = some (.lst [.str "exactly"]) := upd_same
        generalize upd G1 p2 (.lst [.str "exactly"]) = G2 at t2 d2
        have u2 := u1.trans t2
        refine eqT_go (zs := ws.take 1) (ws := ["exactly"]) (t2 _ _ d1) d2 (okt 1) (okl1 so_exactly) ?_
        rw [decide_eq_false (show ¬ ws.take 1 = (["exactly"] : List Str) from by rw [ew]; show ¬ ([(("from" : String) : Str)] : List Str) = ([(("exactly" : String) : Str)] : List Str); decide +kernel)]
        refine ⟨_, rfl, iteF ?_⟩
        refine ⟨_, rfl, _, rfl, wl, _, rfl, SqL.of (u2 _ _ g1), fun p3 hp3 => ?_⟩
        rw [cutSn1]
        have t3 : Same G2 (upd G2 p3 (.lst ((ws.take 1).map V.str))) := Same.new hp3
        have d3 : (upd G2 p3 (.lst ((ws.take 1).map V.str))) p3 = some (.lst ((ws.take 1).map V.str)) := upd_same
        generalize upd G2 p3 (.lst ((ws.take 1).map V.str)) = G3 at t3 d3
        have u3 := u2.trans t3
        refine ⟨by show 1 ≤ sizeLine; decide, fun p4 hp4 => ?_⟩
        have t4 : Same G3 (upd G3 p4 (.lst [.str "from"])) := Same.new hp4
        have d4 : (upd G3 p4 (.lst [.str "from"])) p4 = some (.lst [.str "from"]) := upd_same
        generalize upd G3 p4 (.lst [.str "from"]) = G4 at t4 d4
        have u4 := u3.trans t4
        refine eqT_go (zs := ws.take 1) (ws := ["from"]) (t4 _ _ d3) d4 (okt 1) (okl1 so_from) ?_
        rw [decide_eq_true (show ws.take 1 = (["from"] : List Str) from by rw [ew]; rfl)]
        refine ⟨_, rfl, iteT ?_⟩
        refine ⟨_, rfl, _, rfl, _, rfl, wl, _, rfl, SqL.of (u4 _ _ g1), fun p5 hp5 => ?_⟩
        rw [cutS23]
        have t5 : Same G4 (upd G4 p5 (.lst (((ws.take 3).drop 2).map V.str))) := Same.new hp5
        have d5 : (upd G4 p5 (.lst (((ws.take 3).drop 2).map V.str))) p5 = some (.lst (((ws.take 3).drop 2).map V.str)) := upd_same
        generalize upd G4 p5 (.lst (((ws.take 3).drop 2).map V.str)) = G5 at t5 d5
        have u5 := u4.trans t5
        refine ⟨by show 1 ≤ sizeLine; decide, fun p6 hp6 => ?_⟩
        have t6 : Same G5 (upd G5 p6 (.lst [.str "to"])) := Same.new hp6
        have d6 : (upd G5 p6 (.lst [.str "to"])) p6 = some (.lst [.str "to"]) := upd_same
        generalize upd G5 p6 (.lst [.str "to"]) = G6 at t6 d6
        have u6 := u5.trans t6
        refine eqT_go (zs := (ws.take 3).drop 2) (ws := ["to"]) (t6 _ _ d5) d6 (okd 3 2) (okl1 so_to) ?_
        rw [decide_eq_false (show ¬ (ws.take 3).drop 2 = (["to"] : List Str) from by rw [ew]; exact e3)]
        refine ⟨_, rfl, iteF ?_⟩
        refine ⟨_, rfl, _, rfl, _, rfl, wl, _, rfl, SqL.of (u6 _ _ g1), fun p7 hp7 => ?_⟩
        rw [cutS23]
        have t7 : Same G6 (upd G6 p7 (.lst (((ws.take 3).drop 2).map V.str))) := Same.new hp7
        have d7 : (upd G6 p7 (.lst (((ws.take 3).drop 2).map V.str))) p7 = some (.lst (((ws.take 3).drop 2).map V.str)) := upd_same
        generalize upd G6 p7 (.lst (((ws.take 3).drop 2).map V.str)) = G7 at t7 d7
        have u7 := u6.trans t7
        refine ⟨_, rfl, _, rfl, wl, _, rfl, SqL.of (u7 _ _ g1), fun p8 hp8 => ?_⟩
        rw [cutS3n]
        have t8 : Same G7 (upd G7 p8 (.lst ((ws.drop 3).map V.str))) := Same.new hp8
        have d8 : (upd G7 p8 (.lst ((ws.drop 3).map V.str))) p8 = some (.lst ((ws.drop 3).map V.str)) := upd_same
        generalize upd G7 p8 (.lst ((ws.drop 3).map V.str)) = G8 at t8 d8
        have u8 := u7.trans t8
        refine ⟨_, _, rfl, ?_⟩
        refine ⟨_, rfl, _, rfl, wl, _, rfl, SqL.of (u8 _ _ g1), fun p9 hp9 => ?_⟩
        rw [cutSn2]
        have t9 : Same G8 (upd G8 p9 (.lst ((ws.take 2).map V.str))) := Same.new hp9
        have d9 : (upd G8 p9 (.lst ((ws.take 2).map V.str))) p9 = some (.lst ((ws.take 2).map V.str)) := upd_same
        generalize upd G8 p9 (.lst ((ws.take 2).map V.str)) = G9 at t9 d9
        have u9 := u8.trans t9
        refine ⟨by show 2 ≤ sizeLine; decide, fun p10 hp10 => ?_⟩
        have t10 : Same G9 (upd G9 p10 (.lst [.str "at", .str "least"])) := Same.new hp10
        have d10 : (upd G9 p10 (.lst [.str "at", .str "least"])) p10 = some (.lst [.str "at", .str "least"]) := upd_same
        generalize upd G9 p10 (.lst [.str "at", .str "least"]) = G10 at t10 d10
        have u10 := u9.trans t10
        refine neT_go (zs := ws.take 2) (ws := ["at", "least"]) (t10 _ _ d9) d10 (okt 2) (okl2 so_at so_least) ?_
        rw [decide_eq_false (show ¬ ws.take 2 = (["at", "least"] : List Str) from by rw [ew]; intro q; exact absurd (List.cons.inj q).1 (by decide +kernel))]
        refine ⟨_, rfl, iteT ?_⟩
        refine ⟨_, rfl, _, rfl, wl, _, rfl, SqL.of (u10 _ _ g1), fun p11 hp11 => ?_⟩
        rw [cutSn2]
        have t11 : Same G10 (upd G10 p11 (.lst ((ws.take 2).map V.str))) := Same.new hp11
        have d11 : (upd G10 p11 (.lst ((ws.take 2).map V.str))) p11 = some (.lst ((ws.take 2).map V.str)) := upd_same
        generalize upd G10 p11 (.lst ((ws.take 2).map V.str)) = G11 at t11 d11
        have u11 := u10.trans t11
        refine ⟨by show 2 ≤ sizeLine; decide, fun p12 hp12 => ?_⟩
        have t12 : Same G11 (upd G11 p12 (.lst [.str "at", .str "most"])) := Same.new hp12
        have d12 : (upd G11 p12 (.lst [.str "at", .str "most"])) p12 = some (.lst [.str "at", .str "most"]) := upd_same
        generalize upd G11 p12 (.lst [.str "at", .str "most"]) = G12 at t12 d12
        have u12 := u11.trans t12
        refine neT_go (zs := ws.take 2) (ws := ["at", "most"]) (t12 _ _ d11) d12 (okt 2) (okl2 so_at so_most) ?_
        rw [decide_eq_false (show ¬ ws.take 2 = (["at", "most"] : List Str) from by rw [ew]; intro q; exact absurd (List.cons.inj q).1 (by decide +kernel))]
        refine ⟨_, rfl, iteT ?_⟩
        exact xmk fun dd hdd => kT er _ dd (s1.trans u12) hdd
      · have er : readT ws = none := by unfold readT; rw [en]
        refine ⟨_, rfl, _, rfl, wl, _, rfl, SqL.of g1, fun p1 hp1 => ?_⟩
        rw [cutSn1]
        have t1 : Same H1 (upd H1 p1 (.lst ((ws.take 1).map V.str))) := Same.new hp1
        have d1 : (upd H1 p1 (.lst ((ws.take 1).map V.str))) p1 = some (.lst ((ws.take 1).map V.str)) := upd_same
        generalize upd H1 p1 (.lst ((ws.take 1).map V.str)) = G1 at t1 d1
        have u1 := t1
        refine ⟨by show 1 ≤ sizeLine; decide, fun p2 hp2 => ?_⟩
        have t2 : Same G1 (upd G1 p2 (.lst [.str "exactly"])) := Same.new hp2
        have d2 : (upd G1 p2 (.lst [.str "exactly"])) p2 = some (.lst [.str "exactly"]) := upd_same
        generalize upd G1 p2 (.lst [.str "exactly"]) = G2 at t2 d2
        have u2 := u1.trans t2
        refine eqT_go (zs := ws.take 1) (ws := ["exactly"]) (t2 _ _ d1) d2 (okt 1) (okl1 so_exactly) ?_
        rw [decide_eq_false (show ¬ ws.take 1 = (["exactly"] : List Str) from by rw [ew]; intro q; exact e1 (List.cons.inj q).1)]
        refine ⟨_, rfl, iteF ?_⟩
        refine ⟨_, rfl, _, rfl, wl, _, rfl, SqL.of (u2 _ _ g1), fun p3 hp3 => ?_⟩
        rw [cutSn1]
        have t3 : Same G2 (upd G2 p3 (.lst ((ws.take 1).map V.str))) := Same.new hp3
        have d3 : (upd G2 p3 (.lst ((ws.take 1).map V.str))) p3 = some (.lst ((ws.take 1).map V.str)) := upd_same
        generalize upd G2 p3 (.lst ((ws.take 1).map V.str)) = G3 at t3 d3
        have u3 := u2.trans t3
        refine ⟨by show 1 ≤ sizeLine; decide, fun p4 hp4 => ?_⟩
        have t4 : Same G3 (upd G3 p4 (.lst [.str "from"])) := Same.new hp4
        have d4 : (upd G3 p4 (.lst [.str "from"])) p4 = some (.lst [.str "from"]) := upd_same
        generalize upd G3 p4 (.lst [.str "from"]) = G4 at t4 d4
        have u4 := u3.trans t4
        refine eqT_go (zs := ws.take 1) (ws := ["from"]) (t4 _ _ d3) d4 (okt 1) (okl1 so_from) ?_
        rw [decide_eq_false (show ¬ ws.take 1 = (["from"] : List Str) from by rw [ew]; intro q; exact e2 (List.cons.inj q).1)]
        refine ⟨_, rfl, iteF ?_⟩
        refine ⟨_, rfl, _, rfl, _, rfl, wl, _, rfl, SqL.of (u4 _ _ g1), fun p5 hp5 => ?_⟩
        rw [cutS23]
        have t5 : Same G4 (upd G4 p5 (.lst (((ws.take 3).drop 2).map V.str))) := Same.new hp5
        have d5 : (upd G4 p5 (.lst (((ws.take 3).drop 2).map V.str))) p5 = some (.lst (((ws.take 3).drop 2).map V.str)) := upd_same
        generalize upd G4 p5 (.lst (((ws.take 3).drop 2).map V.str)) = G5 at t5 d5
        have u5 := u4.trans t5
        refine ⟨_, rfl, _, rfl, wl, _, rfl, SqL.of (u5 _ _ g1), fun p6 hp6 => ?_⟩
        rw [cutS3n]
        have t6 : Same G5 (upd G5 p6 (.lst ((ws.drop 3).map V.str))) := Same.new hp6
        have d6 : (upd G5 p6 (.lst ((ws.drop 3).map V.str))) p6 = some (.lst ((ws.drop 3).map V.str)) := upd_same
        generalize upd G5 p6 (.lst ((ws.drop 3).map V.str)) = G6 at t6 d6
        have u6 := u5.trans t6
        refine ⟨_, _, rfl, ?_⟩
        refine ⟨_, rfl, _, rfl, wl, _, rfl, SqL.of (u6 _ _ g1), fun p7 hp7 => ?_⟩
        rw [cutSn2]
        have t7 : Same G6 (upd G6 p7 (.lst ((ws.take 2).map V.str))) := Same.new hp7
        have d7 : (upd G6 p7 (.lst ((ws.take 2).map V.str))) p7 = some (.lst ((ws.take 2).map V.str)) := upd_same
        generalize upd G6 p7 (.lst ((ws.take 2).map V.str)) = G7 at t7 d7
        have u7 := u6.trans t7
        refine ⟨by show 2 ≤ sizeLine; decide, fun p8 hp8 => ?_⟩
        have t8 : Same G7 (upd G7 p8 (.lst [.str "at", .str "least"])) := Same.new hp8
        have d8 : (upd G7 p8 (.lst [.str "at", .str "least"])) p8 = some (.lst [.str "at", .str "least"]) := upd_same
        generalize upd G7 p8 (.lst [.str "at", .str "least"]) = G8 at t8 d8
        have u8 := u7.trans t8
        refine neT_go (zs := ws.take 2) (ws := ["at", "least"]) (t8 _ _ d7) d8 (okt 2) (okl2 so_at so_least) ?_
        rw [decide_eq_false (show ¬ ws.take 2 = (["at", "least"] : List Str) from by rw [ew]; exact e3)]
        refine ⟨_, rfl, iteT ?_⟩
        refine ⟨_, rfl, _, rfl, wl, _, rfl, SqL.of (u8 _ _ g1), fun p9 hp9 => ?_⟩
        rw [cutSn2]
        have t9 : Same G8 (upd G8 p9 (.lst ((ws.take 2).map V.str))) := Same.new hp9
        have d9 : (upd G8 p9 (.lst ((ws.take 2).map V.str))) p9 = some (.lst ((ws.take 2).map V.str)) := upd_same
        generalize upd G8 p9 (.lst ((ws.take 2).map V.str)) = G9 at t9 d9
        have u9 := u8.trans t9
        refine ⟨by show 2 ≤ sizeLine; decide, fun p10 hp10 => ?_⟩
        have t10 : Same G9 (upd G9 p10 (.lst [.str "at", .str "most"])) := Same.new hp10
        have d10 : (upd G9 p10 (.lst [.str "at", .str "most"])) p10 = some (.lst [.str "at", .str "most"]) := upd_same
        generalize upd G9 p10 (.lst [.str "at", .str "most"]) = G10 at t10 d10
        have u10 := u9.trans t10
        refine neT_go (zs := ws.take 2) (ws := ["at", "most"]) (t10 _ _ d9) d10 (okt 2) (okl2 so_at so_most) ?_
        rw [decide_eq_false (show ¬ ws.take 2 = (["at", "most"] : List Str) from by rw [ew]; exact e4)]
        refine ⟨_, rfl, iteT ?_⟩
        exact xmk fun dd hdd => kT er _ dd (s1.trans u10) hdd
    rintro σ H2 ⟨dl, nl, c, ds, ns, rfl, hd, hn, hw, s2, esel⟩
    have hT2 : ∀ z ∈ ds ++ ns, z ∈ ws := sel_mem esel
    have hnl : ns.length ≤ 20 := Nat.le_trans (sel_len esel) (by omega)
    have hdl : ds.length ≤ 2 := sel_dlen esel
    have lw : ∀ z ∈ ws, z.length ≤ 10000 := fun z m => Nat.le_trans (hT.tok z m).len (by decide)
    have none_of : (okN ns && ds.all digB) = false → readT ws = none := fun h => by unfold readT; rw [esel]; show (if (okN ns && ds.all digB) = true then _ else _) = _; rw [h]; rfl
    refine ⟨_, rfl, nl, ns, rfl, hn, hnl, fun z m => lw z (hT2 z (List.mem_append_right _ m)), fun hb H3 s3 => ?_, fun hb kl H3 hkl s3 g3 => ?_⟩
    · refine ⟨_, rfl, rfl, _, rfl, iteT ?_⟩
      exact xmk fun dd hdd => kT (none_of (by rw [hb]; rfl)) _ dd (s2.trans s3) hdd
    refine ⟨_, rfl, rfl, _, rfl, iteF ?_⟩
    have hd3 := s3 _ _ hd
    refine ⟨_, rfl, dl, rfl, ⟨_, SqL.of hd3⟩, fun D hD => lc_vals (ys := ds.map fun z => V.bl (digB z)) (by rw [List.length_map, List.length_map]) hd3 hD (by rw [List.length_map]; omega) (fun _ => rfl) (fun i x y hx hy H' s' Qe qk => ?_) fun H4 s4 g4 => ?_⟩
    · rw [List.getElem?_map] at hx hy
      cases e : ds[i]? with
      | none => rw [e] at hx; cases hx
      | some z =>
        rw [e] at hx hy
        obtain rfl := Option.some.inj hx
        obtain rfl := Option.some.inj hy
        exact ⟨_, rfl, z, rfl, lw z (hT2 z (List.mem_append_left _ (List.mem_of_getElem? e))), qk _ (Same.refl _)⟩
    refine ⟨D, ds.map digB, rfl, SqL.of (by rw [g4, List.map_map]; rfl), ?_⟩
    have ea : (ds.map digB).all id = ds.all digB := by rw [List.all_map]; rfl
    rw [ea]
    cases c3 : ds.all digB with
    | false =>
      refine ⟨_, rfl, iteT ?_⟩
      exact xmk fun dd hdd => kT (none_of (by rw [c3, Bool.and_false])) _ dd ((s2.trans s3).trans s4) hdd
    | true =>
    refine ⟨_, rfl, iteF ?_⟩
    have hdg : ∀ z ∈ ds, digB z = true := fun z m => List.all_eq_true.mp c3 z m
    have hd4 := s4 _ _ hd3
    refine ⟨_, rfl, dl, rfl, ⟨_, SqL.of hd4⟩, fun D2 hD2 => lc_vals (ys := ds.map fun z => V.int (digV z)) (by rw [List.length_map, List.length_map]) hd4 hD2 (by rw [List.length_map]; omega) (fun _ => rfl) (fun i x y hx hy H' s' Qe qk => ?_) fun H5 s5 g5 => ?_⟩
    · rw [List.getElem?_map] at hx hy
      cases e : ds[i]? with
      | none => rw [e] at hx; cases hx
      | some z =>
        rw [e] at hx hy
        obtain rfl := Option.some.inj hx
        obtain rfl := Option.some.inj hy
        obtain ⟨d, hd10, ez, ev⟩ := digB_one (hdg z (List.mem_of_getElem? e))
        have e9 := ntS_dig9 d hd10
        rw [e9.1, ← ez] at e9
        refine ⟨_, rfl, _, _, rfl, e9.2, by rw [ez]; show 1 ≤ 640; decide, ?_⟩
        rw [← ev]
        exact qk _ (Same.refl _)
    have s45 := s4.trans s5
    have hw5 := (s3.trans s45) _ _ hw
    have sA := s2.trans (s3.trans s45)
    have g35 := s45 _ _ g3
    have eR : readT ws = some (c, ds.map digV, evs ns) := by unfold readT; rw [esel]; show (if (okN ns && ds.all digB) = true then _ else _) = _; rw [hb, c3]; rfl
    have k3 := (kR _ _ _ eR).up sA
    have hne : ns ≠ [] := fun e => by rw [e] at hb; exact absurd hb (by decide +kernel)
    have hkl : ((evs ns).map V.str).length ≤ 90 := by rw [List.length_map]; exact Nat.le_trans (Nat.le_trans (pick_len _ _) (step_len _ hnl).1) (by decide)
    have hkv : ∀ v ∈ (evs ns).map V.str, VO H5 v := fun v m => by
      obtain ⟨z, hz, rfl⟩ := List.mem_map.mp m
      exact .str z (Nat.le_trans (lw z (hT2 z (List.mem_append_right _ (pick_mem hz)))) (by decide))
    rcases sel_full esel hne with ⟨rfl, x, r, ew, rfl, rfl⟩ | ⟨rfl, x, y, r, ew, rfl, rfl⟩ | ⟨rfl, x, r, ew, rfl, rfl⟩ | ⟨rfl, x, r, ew, rfl, rfl⟩
    · refine ⟨_, rfl, wl, _, _, _, rfl, rfl, SqL.of hw5, at_of (z := 0) (j := 0) (v := .str "exactly") (by omega) (by rw [ew]; rfl), rfl, ?_⟩
      rw [show decide (V.str ("exactly" : Str) = V.str ("exactly" : Str)) = true from by decide +kernel]
      refine ⟨_, rfl, iteT ?_⟩
      exact ⟨_, rfl, D2, _, _, _, rfl, rfl, SqL.of g5, at_of (z := 0) (j := 0) (by omega) rfl, _, rfl, kl, _, rfl, .inr (SqL.of g35), mk_X1 (by decide) hkl (.int _) hkv k3⟩
    · refine ⟨_, rfl, wl, _, _, _, rfl, rfl, SqL.of hw5, at_of (z := 0) (j := 0) (v := .str "from") (by omega) (by rw [ew]; rfl), rfl, ?_⟩
      rw [show decide (V.str ("from" : Str) = V.str ("exactly" : Str)) = false from by decide +kernel]
      refine ⟨_, rfl, iteF ?_⟩
      refine ⟨_, rfl, wl, _, _, _, rfl, rfl, SqL.of hw5, at_of (z := 0) (j := 0) (v := .str "from") (by omega) (by rw [ew]; rfl), rfl, ?_⟩
      rw [show decide (V.str ("from" : Str) = V.str ("from" : Str)) = true from by decide +kernel]
      refine ⟨_, rfl, iteT ?_⟩
      exact ⟨_, rfl, D2, _, _, _, rfl, rfl, SqL.of g5, at_of (z := 0) (j := 0) (by omega) rfl, _, rfl, D2, _, _, _, rfl, rfl, SqL.of g5, at_of (z := 1) (j := 1) (by omega) rfl, _, rfl, kl, _, rfl, .inr (SqL.of g35), mk_X2 (by decide) hkl (.int _) (.int _) hkv k3⟩
    · refine ⟨_, rfl, wl, _, _, _, rfl, rfl, SqL.of hw5, at_of (z := 0) (j := 0) (v := .str "at") (by omega) (by rw [ew]; rfl), rfl, ?_⟩
      rw [show decide (V.str ("at" : Str) = V.str ("exactly" : Str)) = false from by decide +kernel]
      refine ⟨_, rfl, iteF ?_⟩
      refine ⟨_, rfl, wl, _, _, _, rfl, rfl, SqL.of hw5, at_of (z := 0) (j := 0) (v := .str "at") (by omega) (by rw [ew]; rfl), rfl, ?_⟩
      rw [show decide (V.str ("at" : Str) = V.str ("from" : Str)) = false from by decide +kernel]
      refine ⟨_, rfl, iteF ?_⟩
      refine ⟨_, rfl, wl, _, _, _, rfl, rfl, SqL.of hw5, at_of (z := 1) (j := 1) (v := .str "least") (by omega) (by rw [ew]; rfl), rfl, ?_⟩
      rw [show decide (V.str ("least" : Str) = V.str ("least" : Str)) = true from by decide +kernel]
      refine ⟨_, rfl, iteT ?_⟩
      exact ⟨_, rfl, D2, _, _, _, rfl, rfl, SqL.of g5, at_of (z := 0) (j := 0) (by omega) rfl, _, rfl, kl, _, rfl, .inr (SqL.of g35), mk_X1 (by decide) hkl (.int _) hkv k3⟩
    · refine ⟨_, rfl, wl, _, _, _, rfl, rfl, SqL.of hw5, at_of (z := 0) (j := 0) (v := .str "at") (by omega) (by rw [ew]; rfl), rfl, ?_⟩
      rw [show decide (V.str ("at" : Str) = V.str ("exactly" : Str)) = false from by decide +kernel]
      refine ⟨_, rfl, iteF ?_⟩
      refine ⟨_, rfl, wl, _, _, _, rfl, rfl, SqL.of hw5, at_of (z := 0) (j := 0) (v := .str "at") (by omega) (by rw [ew]; rfl), rfl, ?_⟩
      rw [show decide (V.str ("at" : Str) = V.str ("from" : Str)) = false from by decide +kernel]
      refine ⟨_, rfl, iteF ?_⟩
      refine ⟨_, rfl, wl, _, _, _, rfl, rfl, SqL.of hw5, at_of (z := 1) (j := 1) (v := .str "most") (by omega) (by rw [ew]; rfl), rfl, ?_⟩
      rw [show decide (V.str ("most" : Str) = V.str ("least" : Str)) = false from by decide +kernel]
      refine ⟨_, rfl, iteF ?_⟩
      exact ⟨_, rfl, D2, _, _, _, rfl, rfl, SqL.of g5, at_of (z := 0) (j := 0) (by omega) rfl, _, rfl, kl, _, rfl, .inr (SqL.of g35), mk_X1 (by decide) hkl (.int _) hkv k3⟩
end
end Cs

set_option Elab.async false
set_option linter.all false
set_option maxRecDepth 100000
set_option maxHeartbeats 4000000
set_option pp.maxSteps 600
/-! The texts of k17 and what reading them gives; plain. -/
namespace Cs
open PySem L2
/-- one to four words -/
structure KW (ks : List Str) : Prop where
  lo : 1 ≤ ks.length
  hi : ks.length ≤ 4
  wd : ∀ z ∈ ks, Word z
theorem Kinds.kw {ks : List Str} (h : Kinds ks) : KW ks := ⟨h.lo, Nat.le_trans h.hi (by decide), fun z m => (h.kd z m).1⟩
theorem four_cases {ks : List Str} (h1 : 1 ≤ ks.length) (h2 : ks.length ≤ 4) : (∃ a, ks = [a]) ∨ (∃ a b, ks = [a, b]) ∨ (∃ a b c, ks = [a, b, c]) ∨ (∃ a b c d, ks = [a, b, c, d]) := by
  match ks, h1, h2 with
  | [a], _, _ => exact .inl ⟨a, rfl⟩
  | [a, b], _, _ => exact .inr (.inl ⟨a, b, rfl⟩)
  | [a, b, c], _, _ => exact .inr (.inr (.inl ⟨a, b, c, rfl⟩))
  | [a, b, c, d], _, _ => exact .inr (.inr (.inr ⟨a, b, c, d, rfl⟩))
theorem step_facts : stepI 1 (some 1) none (some 2) = [] ∧ stepI 3 (some 1) none (some 2) = [1] ∧ stepI 5 (some 1) none (some 2) = [1, 3] ∧ stepI 7 (some 1) none (some 2) = [1, 3, 5] ∧ stepI 1 (some 0) none (some 2) = [0] ∧ stepI 3 (some 0) none (some 2) = [0, 2] ∧ stepI 5 (some 0) none (some 2) = [0, 2, 4] ∧ stepI 7 (some 0) none (some 2) = [0, 2, 4, 6] := by decide +kernel
theorem pick_of {zs ys : List Str} {lo hi st : Option Int} {is : List Nat} {n : Nat} (hn : zs.length = n) (h : stepI n lo hi st = is) (e : is.filterMap (zs[·]?) = ys) : pick (stepI zs.length lo hi st) zs = ys := by
  unfold pick
  rw [hn, h, e]
theorem sep_okN {ks : List Str} (h1 : 1 ≤ ks.length) (h2 : ks.length ≤ 4) : okN (sepK ks) = ks.all wordB ∧ evs (sepK ks) = ks := by
  obtain ⟨a1, a3, a5, a7, b1, b3, b5, b7⟩ := step_facts
  have key : ∀ os : List Str, ods (sepK ks) = os → (∀ z ∈ os, z = (("+" : String) : Str)) → evs (sepK ks) = ks → (sepK ks).length % 2 = 1 → okN (sepK ks) = ks.all wordB ∧ evs (sepK ks) = ks := fun os e1 e2 e3 e4 => by
    refine ⟨?_, e3⟩
    unfold okN
    rw [e1, e3, decide_eq_true e4, show (os.all fun z => decide (z = (("+" : String) : Str))) = true from List.all_eq_true.mpr fun z m => decide_eq_true (e2 z m)]
    rfl
  rcases four_cases h1 h2 with ⟨a, rfl⟩ | ⟨a, b, rfl⟩ | ⟨a, b, c, rfl⟩ | ⟨a, b, c, d, rfl⟩
  · exact key [] (pick_of (n := 1) rfl a1 rfl) (by simp) (pick_of (n := 1) rfl b1 rfl) rfl
  · exact key ["+"] (pick_of (n := 3) rfl a3 rfl) (by simp) (pick_of (n := 3) rfl b3 rfl) (by show 3 % 2 = 1; decide)
  · exact key ["+", "+"] (pick_of (n := 5) rfl a5 rfl) (by simp) (pick_of (n := 5) rfl b5 rfl) (by show 5 % 2 = 1; decide)
  · exact key ["+", "+", "+"] (pick_of (n := 7) rfl a7 rfl) (by simp) (pick_of (n := 7) rfl b7 rfl) (by show 7 % 2 = 1; decide)
theorem sep_odd {ks : List Str} (h1 : 1 ≤ ks.length) (h2 : ks.length ≤ 4) : (sepK ks).length % 2 = 1 ∧ (sepK ks).length ≤ 7 := by
  rcases four_cases h1 h2 with ⟨a, rfl⟩ | ⟨a, b, rfl⟩ | ⟨a, b, c, rfl⟩ | ⟨a, b, c, d, rfl⟩ <;> simp [sepK]
theorem okN_even {zs : List Str} (h : zs.length % 2 = 0) : okN zs = false := by
  unfold okN
  rw [decide_eq_false (by omega)]
  rfl
/-- sepK with one more name -/
theorem sepK_snoc : ∀ {ks : List Str} (v : Str), ks ≠ [] → sepK (ks ++ [v]) = sepK ks ++ [(("+" : String) : Str), v]
  | [], _, h => absurd rfl h
  | [x], v, _ => rfl
  | x :: y :: r, v, _ => by
    have ih := sepK_snoc (ks := y :: r) v (by simp)
    show x :: (("+" : String) : Str) :: sepK ((y :: r) ++ [v]) = x :: "+" :: (sepK (y :: r) ++ [(("+" : String) : Str), v])
    rw [ih]
theorem okN_more {ks : List Str} {v : Str} (h1 : 1 ≤ ks.length) (h2 : ks.length ≤ 3) (hv : wordB v = false) : okN (sepK ks ++ [(("+" : String) : Str), v]) = false := by
  rw [← sepK_snoc v (by intro e; rw [e] at h1; simp at h1), (sep_okN (by simp) (by simp; omega)).1, List.all_append]
  simp [hv]
theorem okN_and {ks : List Str} (h : Kinds ks) : okN (sepK ks ++ ([(("and" : String) : Str), (("more" : String) : Str)] : List Str)) = false := by
  obtain ⟨a1, a3, a5, a7, b1, b3, b5, b7⟩ := step_facts
  have key : ∀ os : List Str, ods (sepK ks ++ ([(("and" : String) : Str), (("more" : String) : Str)] : List Str)) = os → (("and" : String) : Str) ∈ os → okN (sepK ks ++ ([(("and" : String) : Str), (("more" : String) : Str)] : List Str)) = false := fun os e1 e2 => by
    unfold okN
    rw [e1, show (os.all fun z => decide (z = (("+" : String) : Str))) = false from Bool.eq_false_iff.mpr fun q => absurd (of_decide_eq_true (List.all_eq_true.mp q _ e2)) (by decide +kernel), Bool.and_false, Bool.false_and]
  rcases kinds_cases h with ⟨a, rfl⟩ | ⟨a, b, rfl⟩ | ⟨a, b, c, rfl⟩
  · exact key ["and"] (pick_of (n := 3) rfl a3 rfl) (by simp)
  · exact key ["+", "and"] (pick_of (n := 5) rfl a5 rfl) (by simp)
  · exact key ["+", "+", "and"] (pick_of (n := 7) rfl a7 rfl) (by simp)
/-! the written forms -/
def hwT : Nat → Int → List Str
  | 0, _ => ["at", "least"]
  | 1, _ => ["at", "most"]
  | 2, l => ["from", ntS l, "to"]
  | _, _ => ["exactly"]
def dgI (lo hi : Int) : Nat → Int
  | 0 => lo
  | 1 => hi
  | 2 => hi
  | _ => lo
def clT : Nat → RCl
  | 0 => .al
  | 1 => .am
  | 2 => .bt
  | _ => .ex
def preT : Nat → Int → List Str
  | 2, l => [ntS l]
  | _, _ => []
theorem sel_hw (j : Nat) (lo : Int) (d : Str) (ns : List Str) : selT (hwT j lo ++ d :: ns) = some (clT j, preT j lo ++ [d], ns) := by
  match j with
  | 0 => rfl
  | 1 => rfl
  | 2 => rfl
  | _ + 3 => rfl
theorem read_none {j : Nat} {lo : Int} {d : Str} {ns : List Str} (h : okN ns = false ∨ digB d = false) : readT (hwT j lo ++ d :: ns) = none := by
  unfold readT
  rw [sel_hw]
  show (if (okN ns && (preT j lo ++ [d]).all digB) = true then _ else _) = _
  rcases h with h | h
  · rw [h]; rfl
  · rw [List.all_append, show [d].all digB = false by simp [h], Bool.and_false, Bool.and_false]
    rfl
theorem read_form {j : Nat} {lo hi : Int} {ks : List Str} (hl : Bnd9 lo) (hh : Bnd9 hi) (hK : KW ks) : readT (hwT j lo ++ ntS (dgI lo hi j) :: sepK ks) = some (clT j, (preT j lo ++ [ntS (dgI lo hi j)]).map digV, ks) := by
  obtain ⟨e1, e2⟩ := sep_okN hK.lo hK.hi
  have hb : Bnd9 (dgI lo hi j) := by
    match j with
    | 0 => exact hl
    | 1 => exact hh
    | 2 => exact hh
    | _ + 3 => exact hl
  unfold readT
  rw [sel_hw]
  show (if (okN (sepK ks) && (preT j lo ++ [ntS (dgI lo hi j)]).all digB) = true then some (clT j, (preT j lo ++ [ntS (dgI lo hi j)]).map digV, evs (sepK ks)) else none) = _
  have h1 : ks.all wordB = true := List.all_eq_true.mpr fun z m => wordB_of (hK.wd z m)
  have h2 : (preT j lo ++ [ntS (dgI lo hi j)]).all digB = true := by
    rw [List.all_append, show [ntS (dgI lo hi j)].all digB = true by simp [(digB_nt hb).1], Bool.and_true]
    match j with
    | 0 => rfl
    | 1 => rfl
    | 2 => show [ntS lo].all digB = true; simp [(digB_nt hl).1]
    | _ + 3 => rfl
  rw [e1, e2, h1, h2]
  rfl
theorem bnd_of' {n : Int} (h : Bnd9 n) : bndV (.int n) = true := by
  show (decide (0 ≤ n) && decide (n ≤ 9)) = true
  rw [decide_eq_true h.1, decide_eq_true h.2]
  rfl
theorem num_form {j : Nat} {lo hi : Int} (hl : Bnd9 lo) (hh : Bnd9 hi) : numT (clT j) ((preT j lo ++ [ntS (dgI lo hi j)]).map digV) = if j = 2 then decide (lo ≤ hi) else true := by
  have dl := (digB_nt hl).2
  have dh := (digB_nt hh).2
  match j with
  | 0 =>
    show okBV ([digV (ntS lo)].map V.int) = true
    rw [dl]
    exact bnd_of' hl
  | 1 =>
    show okBV ([digV (ntS hi)].map V.int) = true
    rw [dh]
    exact bnd_of' hh
  | 2 =>
    show okWV ([digV (ntS lo), digV (ntS hi)].map V.int) = _
    rw [dl, dh, if_pos rfl]
    show ((bndV (.int lo) && bndV (.int hi)) && decide (lo ≤ hi)) = _
    rw [bnd_of' hl, bnd_of' hh]
    rfl
  | j + 3 =>
    show okWV [.int (digV (ntS lo)), .int (digV (ntS lo))] = _
    rw [dl, if_neg (by omega)]
    show ((bndV (.int lo) && bndV (.int lo)) && decide (lo ≤ lo)) = _
    rw [bnd_of' hl, decide_eq_true (Int.le_refl _)]
    rfl
theorem what_form {j : Nat} {lo hi : Int} {ks : List Str} (hl : Bnd9 lo) (hh : Bnd9 hi) (hK : KW ks) : whatT (hwT j lo ++ ntS (dgI lo hi j) :: sepK ks) = if j = 2 ∧ hi < lo then (("number" : String) : Str) else if kindsV (ks.map V.str) = false then (("kinds" : String) : Str) else (("" : String) : Str) := by
  unfold whatT
  rw [read_form hl hh hK]
  show (if numT (clT j) ((preT j lo ++ [ntS (dgI lo hi j)]).map digV) = false then (("number" : String) : Str) else if kindsV (ks.map V.str) = false then "kinds" else "") = _
  rw [num_form hl hh]
  by_cases c : j = 2 ∧ hi < lo
  · rw [if_pos c, if_pos c.1, if_pos (decide_eq_false (by omega))]
  · rw [if_neg c]
    by_cases e : j = 2
    · rw [if_pos e, if_neg (by rw [decide_eq_true (show lo ≤ hi by omega)]; decide)]
    · rw [if_neg e, if_neg (by decide)]
theorem what_none {ws : List Str} (h : readT ws = none) : whatT ws = "text" := by
  unfold whatT
  rw [h]
/-! tokens -/
theorem lit_tok {z : Str} (h : (decide (32 ∉ TL.tl z) && (PyData.strOk z && decide (z.length ≤ 200))) = true) : Tok z := by
  rw [Bool.and_eq_true, Bool.and_eq_true, decide_eq_true_eq, decide_eq_true_eq] at h
  exact ⟨h.1, h.2.1, h.2.2⟩
theorem word_tok {z : Str} (h : Word z) : Tok z := ⟨no_sp h, wordR_ok h, Nat.le_trans h.2.1 (by decide)⟩
theorem nt_len {n : Int} (h : Bnd9 n) : (ntS n).length = 1 := by
  obtain ⟨d, _, _, e, _⟩ := ntS_dig h
  rw [e]
  rfl
theorem nt_tok {n : Int} (h : Bnd9 n) : Tok (ntS n) := by
  refine ⟨nt_sp h, ?_, by rw [nt_len h]; decide⟩
  obtain ⟨d, hd, _, e, _⟩ := ntS_dig h
  rw [e]
  have key : ∀ d : Nat, d < 10 → PyData.strOk ⟨#[48 + d]⟩ = true := by decide +kernel
  exact key d hd
theorem tok_cat {a b : Str} (ha : Tok a) (hb : Tok b) (h : a.length + b.length ≤ 200) : Tok (a ++ b) := by
  refine ⟨fun m => ?_, ?_, by rw [strLen_append]; exact h⟩
  · have m : 32 ∈ (a ++ b).cps.toList := m
    rw [PySem.Str.cps_append, Array.toList_append] at m
    rcases List.mem_append.mp m with q | q
    · exact ha.sp q
    · exact hb.sp q
  · have h1 := ha.ok
    have h2 := hb.ok
    unfold PyData.strOk at h1 h2 ⊢
    rw [PySem.Str.cps_append, Array.all_append, h1, h2]
    rfl
theorem sep_tok {ks : List Str} (h : ∀ z ∈ ks, Tok z) : ∀ z ∈ sepK ks, Tok z := by
  induction ks with
  | nil => intro z m; cases m
  | cons x r ih =>
    cases r with
    | nil => exact h
    | cons y r =>
      intro z m
      have m : z ∈ x :: (("+" : String) : Str) :: sepK (y :: r) := m
      rcases List.mem_cons.mp m with e | m
      · rw [e]; exact h x List.mem_cons_self
      · rcases List.mem_cons.mp m with e | m
        · rw [e]; exact lit_tok (by decide +kernel)
        · exact ih (fun z m => h z (List.mem_cons_of_mem _ m)) z m
theorem hw_tok {j : Nat} {lo : Int} (h : Bnd9 lo) : ∀ z ∈ hwT j lo, Tok z := by
  have t := nt_tok h
  intro z m
  match j with
  | 0 =>
    simp only [hwT, List.mem_cons, List.not_mem_nil, or_false] at m
    rcases m with rfl | rfl <;> exact lit_tok (by decide +kernel)
  | 1 =>
    simp only [hwT, List.mem_cons, List.not_mem_nil, or_false] at m
    rcases m with rfl | rfl <;> exact lit_tok (by decide +kernel)
  | 2 =>
    simp only [hwT, List.mem_cons, List.not_mem_nil, or_false] at m
    rcases m with rfl | rfl | rfl
    · exact lit_tok (by decide +kernel)
    · exact t
    · exact lit_tok (by decide +kernel)
  | _ + 3 =>
    simp only [hwT, List.mem_cons, List.not_mem_nil, or_false] at m
    rw [m]
    exact lit_tok (by decide +kernel)
theorem hw_len (j : Nat) (lo : Int) : (hwT j lo).length ≤ 3 := by
  match j with
  | 0 => exact (by decide : 2 ≤ 3)
  | 1 => exact (by decide : 2 ≤ 3)
  | 2 => exact Nat.le_refl 3
  | _ + 3 => exact (by decide : 1 ≤ 3)
theorem tokL_of {j : Nat} {lo : Int} {r : List Str} (h : Bnd9 lo) (hr : ∀ z ∈ r, Tok z) (hne : r ≠ []) (hl : r.length ≤ 11) : TokL (hwT j lo ++ r) := by
  have := hw_len j lo
  refine ⟨fun e => hne (List.append_eq_nil_iff.mp e).2, by rw [List.length_append]; omega, fun z m => ?_⟩
  rcases List.mem_append.mp m with q | q
  · exact hw_tok h z q
  · exact hr z q
/-! joins -/
def flatT : List Str → Str
  | [] => Str.empty
  | w :: r => w ++ " " ++ flatT r
theorem joinC {x : Str} {B : List Str} (h : B ≠ []) : Str.join " " (x :: B) = x ++ " " ++ Str.join " " B := by
  cases B with
  | nil => exact absurd rfl h
  | cons y r => rfl
theorem joinF {A B : List Str} (h : B ≠ []) : Str.join " " (A ++ B) = flatT A ++ Str.join " " B := by
  induction A with
  | nil => exact (emptyS_app _).symm
  | cons x r ih =>
    rw [List.cons_append, joinC (fun e => h (List.append_eq_nil_iff.mp e).2), ih]
    show x ++ " " ++ (flatT r ++ Str.join " " B) = x ++ " " ++ flatT r ++ Str.join " " B
    simp only [PySem.Str.append_assoc]
theorem joinA {A B : List Str} (ha : A ≠ []) (h : B ≠ []) : Str.join " " (A ++ B) = Str.join " " A ++ " " ++ Str.join " " B := by
  induction A with
  | nil => exact absurd rfl ha
  | cons x r ih =>
    cases r with
    | nil => exact joinC h
    | cons y r =>
      rw [List.cons_append, joinC (by simp), ih (by simp), joinC (x := x) (by simp)]
      simp only [PySem.Str.append_assoc]
theorem sepK_ne' {ks : List Str} (h : ks ≠ []) : sepK ks ≠ [] := by
  match ks, h with
  | [x], _ => intro e; cases e
  | x :: y :: r, _ => intro e; cases e
theorem sum_sepX : ∀ {ks : List Str}, ks ≠ [] → sumT ks = Str.join " " (sepK ks) := by
  intro ks
  unfold sumT
  rw [TL.join_eq]
  induction ks with
  | nil => intro h; exact absurd rfl h
  | cons x r ih =>
    intro _
    cases r with
    | nil => rfl
    | cons y r =>
      have ih := ih (by simp)
      show x ++ " + " ++ Str.join " + " (y :: r) = Str.join " " (x :: "+" :: sepK (y :: r))
      rw [ih, joinC (by simp), joinC (sepK_ne' (by simp)), lit_pl]
      simp only [PySem.Str.append_assoc]
def formS (lo hi : Int) (ks : List Str) : Nat → Str
  | 0 => "at least " ++ ntS lo ++ " " ++ sumT ks
  | 1 => "at most " ++ ntS hi ++ " " ++ sumT ks
  | 2 => "from " ++ ntS lo ++ " to " ++ ntS hi ++ " " ++ sumT ks
  | _ => "exactly " ++ ntS lo ++ " " ++ sumT ks
theorem app_emptyS (z : Str) : z ++ Str.empty = z := str_ext (by rw [PySem.Str.cps_append]; simp [Str.empty])
/-- a form: its head, its figure, its names -/
theorem form_flat (lo hi : Int) (ks : List Str) (j : Nat) : formS lo hi ks j = flatT (hwT j lo) ++ ntS (dgI lo hi j) ++ " " ++ sumT ks := by
  match j with
  | 0 =>
    show "at least " ++ ntS lo ++ " " ++ sumT ks = "at" ++ " " ++ ("least" ++ " " ++ Str.empty) ++ ntS lo ++ " " ++ sumT ks
    rw [lit_al, app_emptyS]
    simp only [PySem.Str.append_assoc]
  | 1 =>
    show "at most " ++ ntS hi ++ " " ++ sumT ks = "at" ++ " " ++ ("most" ++ " " ++ Str.empty) ++ ntS hi ++ " " ++ sumT ks
    rw [lit_am, app_emptyS]
    simp only [PySem.Str.append_assoc]
  | 2 =>
    show "from " ++ ntS lo ++ " to " ++ ntS hi ++ " " ++ sumT ks = "from" ++ " " ++ (ntS lo ++ " " ++ ("to" ++ " " ++ Str.empty)) ++ ntS hi ++ " " ++ sumT ks
    rw [lit_bt, lit_to, app_emptyS]
    simp only [PySem.Str.append_assoc]
  | _ + 3 =>
    show "exactly " ++ ntS lo ++ " " ++ sumT ks = "exactly" ++ " " ++ Str.empty ++ ntS lo ++ " " ++ sumT ks
    rw [lit_ex, app_emptyS]
theorem form_join {lo hi : Int} {ks : List Str} (h : ks ≠ []) (j : Nat) : formS lo hi ks j = Txt.join " " (hwT j lo ++ ntS (dgI lo hi j) :: sepK ks) := by
  rw [form_flat, TL.join_eq, joinF (by simp), joinC (sepK_ne' h), sum_sepX h]
  simp only [PySem.Str.append_assoc]
theorem cut_pre (p q : Str) {i : Int} (h : i = ((p ++ q).length : Int) - (q.length : Int)) : cutS (p ++ q) none (some i) = p := by
  have hl : (p ++ q).length = p.length + q.length := strLen_append p q
  have hi : i = (p.length : Int) := by omega
  unfold cutS
  rw [hi, HT.sIx_nat, HT.sIx_none, hl, Nat.min_eq_left (by omega), List.drop_zero, Nat.sub_zero]
  refine str_ext ?_
  show List.take p.length (p ++ q).cps.toList = p.cps.toList
  rw [PySem.Str.cps_append, Array.toList_append, List.take_left' (show p.cps.toList.length = p.length from Array.length_toList)]
theorem cut_end (p q : Str) {n : Nat} (hq : q.length = n) (h0 : 0 < n) : cutS (p ++ q) none (some (-(n : Int))) = p := by
  have hl : (p ++ q).length = p.length + q.length := strLen_append p q
  unfold cutS
  have e : HT.sIx (p ++ q).length (p ++ q).length (some (-(n : Int))) = p.length := by
    show (if -(n : Int) < 0 then (-(n : Int) + ((p ++ q).length : Int)).toNat else _) = _
    rw [if_pos (by omega)]
    omega
  rw [e, HT.sIx_none, List.drop_zero, Nat.sub_zero]
  refine str_ext ?_
  show List.take p.length (p ++ q).cps.toList = p.cps.toList
  rw [PySem.Str.cps_append, Array.toList_append, List.take_left' (show p.cps.toList.length = p.length from Array.length_toList)]
theorem at_two (l : List Nat) (c d : Nat) : atI (l ++ [c, d]) (-2) = some c := by
  have hl : (l ++ [c, d]).length = l.length + 2 := by simp
  have e : ixN (l ++ [c, d]).length (-2) = some l.length := by
    unfold ixN
    rw [hl, if_neg (by decide), if_pos (by omega)]
    congr 1
    omega
  unfold atI
  rw [e]
  simp
/-! capitals -/
theorem upper_word {z : Str} (h : Word z) : Txt.upper z = ⟨z.cps.map PyProof.Rows.up1⟩ := PyProof.Rows.upper_ascii fun c hc => by
  obtain ⟨i, hi, rfl⟩ := mem_let.mp (h.2.2 c hc)
  omega
def upT (z : Str) : Str := ⟨z.cps.map PyProof.Rows.up1⟩
theorem upT_app (a b : Str) : upT (a ++ b) = upT a ++ upT b := str_ext (by
  show ((a ++ b).cps.map PyProof.Rows.up1).toList = (a.cps.map PyProof.Rows.up1 ++ b.cps.map PyProof.Rows.up1).toList
  rw [PySem.Str.cps_append, Array.map_append])
theorem up_not : ∀ i, i < 26 → PyProof.Rows.up1 (97 + i) ∉ LET.cps.toList ∧ PyProof.Rows.up1 (97 + i) ≠ 32 ∧ PyProof.Rows.up1 (97 + i) < 0x110000 := by decide +kernel
theorem upT_no {z : Str} (h : Word z) : wordB (upT z) = false := by
  have h1 := h.1
  cases e : z.cps.toList with
  | nil =>
    have : z.cps.toList.length = z.length := Array.length_toList
    rw [e] at this
    simp at this
    omega
  | cons c r =>
    obtain ⟨i, hi, rfl⟩ := mem_let.mp (h.2.2 c (by rw [e]; exact List.mem_cons_self))
    unfold wordB
    refine Bool.eq_false_iff.mpr fun q => ?_
    rw [Bool.and_eq_true, List.all_eq_true] at q
    have m : PyProof.Rows.up1 (97 + i) ∈ (upT z).cps.toList := by
      show _ ∈ (z.cps.map PyProof.Rows.up1).toList
      rw [Array.toList_map, e]
      exact List.mem_cons_self
    exact (up_not i hi).1 (by simpa using q.2 _ m)
theorem upT_tok {z : Str} (h : Word z) : Tok (upT z) := by
  have key : ∀ c ∈ (upT z).cps.toList, ∃ i, i < 26 ∧ c = PyProof.Rows.up1 (97 + i) := fun c hc => by
    have hc : c ∈ (z.cps.map PyProof.Rows.up1).toList := hc
    rw [Array.toList_map] at hc
    obtain ⟨d, hd, rfl⟩ := List.mem_map.mp hc
    obtain ⟨i, hi, rfl⟩ := mem_let.mp (h.2.2 d hd)
    exact ⟨i, hi, rfl⟩
  refine ⟨fun m => ?_, ?_, ?_⟩
  · obtain ⟨i, hi, e⟩ := key 32 m
    exact (up_not i hi).2.1 e.symm
  · unfold PyData.strOk
    rw [← Array.all_toList, List.all_eq_true]
    intro c hc
    obtain ⟨i, hi, rfl⟩ := key c hc
    exact decide_eq_true (up_not i hi).2.2
  · show (z.cps.map PyProof.Rows.up1).size ≤ 200
    rw [Array.size_map]
    exact Nat.le_trans h.2.1 (by decide)
theorem sum_ascii {ks : List Str} (h : ∀ z ∈ ks, Word z) (hne : ks ≠ []) : ∀ c ∈ (sumT ks).cps.toList, c < 128 := by
  unfold sumT
  rw [TL.join_eq]
  induction ks with
  | nil => exact absurd rfl hne
  | cons x r ih =>
    have hx : ∀ c ∈ x.cps.toList, c < 128 := fun c hc => by
      obtain ⟨i, hi, rfl⟩ := mem_let.mp ((h x List.mem_cons_self).2.2 c hc)
      omega
    cases r with
    | nil => exact hx
    | cons y r =>
      have ih := ih (fun z m => h z (List.mem_cons_of_mem _ m)) (by simp)
      intro c hc
      have hc : c ∈ (x ++ " + " ++ Str.join " + " (y :: r)).cps.toList := hc
      rw [PySem.Str.cps_append, PySem.Str.cps_append, Array.toList_append, Array.toList_append] at hc
      rcases List.mem_append.mp hc with q | q
      · rcases List.mem_append.mp q with q | q
        · exact hx c q
        · have key : ∀ c ∈ (((" + " : String) : Str)).cps.toList, c < 128 := by decide +kernel
          exact key c q
      · exact ih c q
theorem upper_sum {ks : List Str} (h : ∀ z ∈ ks, Word z) (hne : ks ≠ []) : Txt.upper (sumT ks) = sumT (ks.map upT) := by
  have e : Txt.upper (sumT ks) = upT (sumT ks) := PyProof.Rows.upper_ascii (sum_ascii h hne)
  rw [e]
  unfold sumT
  rw [TL.join_eq, TL.join_eq]
  clear e h
  induction ks with
  | nil => exact absurd rfl hne
  | cons x r ih =>
    cases r with
    | nil => rfl
    | cons y r =>
      have ih := ih (by simp)
      show upT (x ++ " + " ++ Str.join " + " (y :: r)) = upT x ++ " + " ++ Str.join " + " ((y :: r).map upT)
      rw [upT_app, upT_app, ih, show upT " + " = (((" + " : String) : Str)) from by decide +kernel]
end Cs

set_option Elab.async false
set_option linter.all false
set_option maxRecDepth 100000
set_option maxHeartbeats 8000000
set_option pp.maxSteps 600
/-! The law of rules not read: its helpers. -/
namespace Cs
open PySem L2
def spFormsX : Sp := fun vs H Q _ => ∃ (lo hi : Int) (kl : Addr) (ks : List Str), vs = [.int lo, .int hi, .ref kl] ∧ Bnd9 lo ∧ Bnd9 hi ∧ H kl = some (.lst (ks.map V.str)) ∧ KW ks ∧ ∀ (q : Addr) (H' : Hp), H q = none → Same H H' → H' q = some (.lst [.str (formS lo hi ks 0), .str (formS lo hi ks 1), .str (formS lo hi ks 2), .str (formS lo hi ks 3)]) → Q (.ref q) H'
def spWhatT : Sp := fun vs H Q _ => ∃ v, vs = [v] ∧ ((VO H v ∧ notS v ∧ ∀ H', Same H H' → Q (.str "text") H') ∨ ∃ ws, TokL ws ∧ v = .str (Txt.join " " ws) ∧ ∀ H', Same H H' → Q (.str (whatT ws)) H')
def spNoStr : Sp := fun vs H Q _ => ∃ c : Int, vs = [.int c] ∧ 0 ≤ c ∧ c < 7 ∧ ∀ v H', Same H H' → VO H' v → notS v → Q v H'
def spFaulty : Sp := fun vs H Q _ => ∃ (c : Int) (j : Nat) (lo hi : Int) (ks : List Str), vs = [.int c, .int j, .str (formS lo hi ks j), .str (sumT ks)] ∧ 0 ≤ c ∧ c < 19 ∧ j < 4 ∧ Bnd9 lo ∧ Bnd9 hi ∧ Kinds ks ∧ ∀ ws H', Same H H' → TokL ws → readT ws = none → Q (.str (Txt.join " " ws)) H'
theorem same2 {H H2 : Hp} {b : Addr} {o' : HO} (kq : ∀ x o, H x = some o → H2 x = some o) (hb : H2 b = none) : Same H (upd H2 b o') := fun x o e => (upd_ne (ne_of_none (kq _ _ e) hb)).trans (kq x o e)
theorem kw_sum {ks : List Str} (h : KW ks) : (ks.map (·.length)).sum ≤ 32 := by
  have h1 := h.hi
  have h2 := sumS_le (B := 8) (ts := ks) fun z m => (h.wd z m).2.1
  omega
theorem kw_len {ks : List Str} (h : KW ks) : (sumT ks).length ≤ 44 := by
  have h1 := h.hi
  have h2 := joinS_len " + " ks
  have h3 := kw_sum h
  have e : ((" + " : String) : Str).length = 3 := rfl
  unfold sumT
  rw [TL.join_eq]
  rw [e] at h2
  omega
theorem kw_ne {ks : List Str} (h : KW ks) : ks ≠ [] := fun e => by
  have := h.lo
  rw [e] at this
  simp at this
theorem form_len {lo hi : Int} {ks : List Str} (hl : Bnd9 lo) (hh : Bnd9 hi) (h : KW ks) (j : Nat) : (formS lo hi ks j).length ≤ 100 := by
  have h1 := kw_len h
  have n1 := nt_len hl
  have n2 := nt_len hh
  have e1 : (("at least " : String) : Str).length = 9 := rfl
  have e2 : (("at most " : String) : Str).length = 8 := rfl
  have e3 : (("from " : String) : Str).length = 5 := rfl
  have e4 : ((" to " : String) : Str).length = 4 := rfl
  have e5 : (("exactly " : String) : Str).length = 8 := rfl
  have e6 : ((" " : String) : Str).length = 1 := rfl
  match j with
  | 0 => unfold formS; simp only [strLen_append, e1, e6]; omega
  | 1 => unfold formS; simp only [strLen_append, e2, e6]; omega
  | 2 => unfold formS; simp only [strLen_append, e3, e4, e6]; omega
  | _ + 3 => unfold formS; simp only [strLen_append, e5, e6]; omega
def optT : Nat → Str
  | 0 => "at "
  | 1 => "at "
  | 2 => "from 1 till "
  | _ => "exact "
def optW : Nat → List Str
  | 0 => ["at"]
  | 1 => ["at"]
  | 2 => ["from", "1", "till"]
  | _ => ["exact"]
theorem optF : ∀ j, j < 4 → optT j = flatT (optW j) ∧ (optT j).length ≤ 12 ∧ (optW j).length ≤ 3 := by decide +kernel
theorem opt_tok {j : Nat} : ∀ z ∈ optW j, Tok z := by
  have key : ∀ j : Fin 4, ∀ z ∈ optW j, (decide (32 ∉ TL.tl z) && (PyData.strOk z && decide (z.length ≤ 200))) = true := by decide +kernel
  match j with
  | 0 => exact fun z m => lit_tok (key 0 z m)
  | 1 => exact fun z m => lit_tok (key 1 z m)
  | 2 => exact fun z m => lit_tok (key 2 z m)
  | _ + 3 => exact fun z m => lit_tok (key 3 z m)
theorem opt_none {j : Nat} {d : Str} {r : List Str} (h : d.length = 1) : readT (optW j ++ d :: r) = none := by
  have n1 : d ≠ (("least" : String) : Str) := fun e => by rw [e] at h; exact absurd h (by decide)
  have n2 : d ≠ (("most" : String) : Str) := fun e => by rw [e] at h; exact absurd h (by decide)
  have at_ : selT ("at" :: d :: r) = none := (sel_at d r).trans ((if_neg n1).trans (if_neg n2))
  unfold readT
  match j with
  | 0 => rw [show selT (optW 0 ++ d :: r) = none from at_]
  | 1 => rw [show selT (optW 1 ++ d :: r) = none from at_]
  | 2 => rfl
  | _ + 3 => rfl
theorem nl_word (z : Str) : wordB (z ++ (("\n" : String) : Str)) = false := by
  unfold wordB
  refine Bool.eq_false_iff.mpr fun q => ?_
  rw [Bool.and_eq_true, List.all_eq_true] at q
  have m : 10 ∈ (z ++ (("\n" : String) : Str)).cps.toList := by
    rw [PySem.Str.cps_append, Array.toList_append]
    exact List.mem_append_right _ (by decide +kernel)
  exact absurd (show 10 ∈ LET.cps.toList by simpa using q.2 _ m) (by decide +kernel)
theorem nl_of {ks : List Str} (hK : Kinds ks) : ∃ nl : List Str, Str.join " " (sepK nl) = Str.join " " (sepK ks) ++ (("\n" : String) : Str) ∧ 1 ≤ nl.length ∧ nl.length ≤ 4 ∧ (∀ z ∈ sepK nl, Tok z) ∧ okN (sepK nl) = false := by
  have tn : ∀ {z : Str}, Word z → Tok (z ++ (("\n" : String) : Str)) := fun h => tok_cat (word_tok h) (lit_tok (by decide +kernel)) (by have := h.2.1; have e : ((("\n" : String) : Str)).length = 1 := rfl; omega)
  have w := hK.kw.wd
  have no : ∀ {nl : List Str} {z : Str}, 1 ≤ nl.length → nl.length ≤ 4 → z ++ (("\n" : String) : Str) ∈ nl → okN (sepK nl) = false := fun h1 h2 m => by
    rw [(sep_okN h1 h2).1]
    exact Bool.eq_false_iff.mpr fun q => by
      have := List.all_eq_true.mp q _ m
      rw [nl_word] at this
      cases this
  rcases kinds_cases hK with ⟨x, rfl⟩ | ⟨x, y, rfl⟩ | ⟨x, y, z, rfl⟩
  · refine ⟨[x ++ (("\n" : String) : Str)], rfl, by simp, by simp, sep_tok fun z m => ?_, no (z := x) (by simp) (by simp) (by simp)⟩
    rw [List.mem_singleton.mp m]
    exact tn (w x (by simp))
  · refine ⟨[x, y ++ (("\n" : String) : Str)], ?_, by simp, by simp, sep_tok fun z m => ?_, no (z := y) (by simp) (by simp) (by simp)⟩
    · show Str.join " " [x, "+", y ++ (("\n" : String) : Str)] = Str.join " " [x, "+", y] ++ _
      simp only [joinS_cons, joinS_one, PySem.Str.append_assoc]
    · simp only [List.mem_cons, List.not_mem_nil, or_false] at m
      rcases m with rfl | rfl
      · exact word_tok (w _ (by simp))
      · exact tn (w y (by simp))
  · refine ⟨[x, y, z ++ (("\n" : String) : Str)], ?_, by simp, by simp, sep_tok fun v m => ?_, no (z := z) (by simp) (by simp) (by simp)⟩
    · show Str.join " " [x, "+", y, "+", z ++ (("\n" : String) : Str)] = Str.join " " [x, "+", y, "+", z] ++ _
      simp only [joinS_cons, joinS_one, PySem.Str.append_assoc]
    · simp only [List.mem_cons, List.not_mem_nil, or_false] at m
      rcases m with rfl | rfl | rfl
      · exact word_tok (w _ (by simp))
      · exact word_tok (w _ (by simp))
      · exact tn (w z (by simp))
theorem ll1 : (((" +" : String) : Str)) = " " ++ "+" := by decide +kernel
theorem ll2 : ((("+ " : String) : Str)) = "+" ++ " " := by decide +kernel
theorem ll3 : (((" and more" : String) : Str)) = " " ++ "and" ++ " " ++ "more" := by decide +kernel
theorem ll4 : ((("x " : String) : Str)) = "x" ++ " " := by decide +kernel
theorem ll5 : (((" + +" : String) : Str)) = " " ++ "+" ++ " " ++ "+" := by decide +kernel
theorem ll0 : ((("" : String) : Str)) = Str.empty := by decide +kernel
section
variable {P : Program} {w : World} {K : PySem.W.Frag} {mg : Str → Option Value} {base : Heap}
theorem ok_formsX {f : Addr} {fd : FuncData} (F : Fun K "_law_forms" "_law_forms" s_l_forms f fd) (g : Bi mg) : FnOk P w K mg base CX0 1 f fd ["_law_low", "_law_high", "_law_kinds_here"] spFormsX := by
  refine F.ok sc_l_forms (fun vs H Q E h => ?_) (fun cdv A outer s H vs Q E hr h => ?_)
  · obtain ⟨_, _, _, _, rfl, _⟩ := h
    rfl
  · obtain ⟨lo, hi, kl, ks, rfl, hlo, hhi, hk, hK, k⟩ := h
    have h1 := kw_sum hK
    have h2 := hK.hi
    have e : ((" + " : String) : Str).length = 3 := rfl
    have j1 := kw_len hK
    have n1 := ntS_len hlo
    have n2 := ntS_len hhi
    have e1 : (("at least " : String) : Str).length = 9 := rfl
    have e2 : (("at most " : String) : Str).length = 8 := rfl
    have e3 : (("from " : String) : Str).length = 5 := rfl
    have e4 : ((" to " : String) : Str).length = 4 := rfl
    have e5 : (("exactly " : String) : Str).length = 8 := rfl
    have e6 : ((" " : String) : Str).length = 1 := rfl
    have big : 9000 ≤ sizeLine := by decide
    refine ⟨_, (pss_cons (ps_set (i := 3) sc_l_forms.nd rfl (Or.inl rfl) (pe_join pe_str (pv 2)))
      (pss_cons (ps_set (i := 4) sc_l_forms.nd rfl (Or.inl rfl) (pe_lst (pa_cons (pe_op op_add_str (pe_op op_add_str (pe_op op_add_str pe_str (pe_callTy call_str_int (by rfl) g.str (by decide +kernel) (pa_cons (pv 0) pa_nil))) pe_str) (pv 3)) (pa_cons (pe_op op_add_str (pe_op op_add_str (pe_op op_add_str pe_str (pe_callTy call_str_int (by rfl) g.str (by decide +kernel) (pa_cons (pv 1) pa_nil))) pe_str) (pv 3)) pa_nil))))
      (pss_cons (ps_expr (pe_bm PySem.F.plainAttrs_list PySem.F.slot_list_append PySem.F.type_list_append mt_append (pv 4) (pa_cons (pe_op op_add_str (pe_op op_add_str (pe_op op_add_str (pe_op op_add_str (pe_op op_add_str pe_str (pe_callTy call_str_int (by rfl) g.str (by decide +kernel) (pa_cons (pv 0) pa_nil))) pe_str) (pe_callTy call_str_int (by rfl) g.str (by decide +kernel) (pa_cons (pv 1) pa_nil))) pe_str) (pv 3)) pa_nil)))
      (pss_one (ps_ret (pe_op op_cat (pv 4) (pe_lst (pa_cons (pe_op op_add_str (pe_op op_add_str (pe_op op_add_str pe_str (pe_callTy call_str_int (by rfl) g.str (by decide +kernel) (pa_cons (pv 0) pa_nil))) pe_str) (pv 3)) pa_nil)))))))), ?_⟩
    refine ⟨⟨_, rfl⟩, _, rfl, _, kl, ks, rfl, rfl, .inl (SqL.of hk), by rw [e]; omega, ?_⟩
    have n1' : (Str.ofString (toString lo)).length ≤ 1921 := n1
    have n2' : (Str.ofString (toString hi)).length ≤ 1921 := n2
    have j1' : (Txt.join " + " ks).length ≤ 44 := j1
    refine ⟨_, rfl, lo, rfl, Nat.lt_trans (log9 hlo) (by decide), _, _, rfl, rfl, Nat.le_trans (show _ ≤ 9000 from by simp only [strLen_append, e1, e2, e3, e4, e5, e6]; omega) big, _, _, rfl, rfl, Nat.le_trans (show _ ≤ 9000 from by simp only [strLen_append, e1, e2, e3, e4, e5, e6]; omega) big, _, rfl, _, _, rfl, rfl, Nat.le_trans (show _ ≤ 9000 from by simp only [strLen_append, e1, e2, e3, e4, e5, e6]; omega) big, ?_⟩
    refine ⟨_, rfl, hi, rfl, Nat.lt_trans (log9 hhi) (by decide), _, _, rfl, rfl, Nat.le_trans (show _ ≤ 9000 from by simp only [strLen_append, e1, e2, e3, e4, e5, e6]; omega) big, _, _, rfl, rfl, Nat.le_trans (show _ ≤ 9000 from by simp only [strLen_append, e1, e2, e3, e4, e5, e6]; omega) big, _, rfl, _, _, rfl, rfl, Nat.le_trans (show _ ≤ 9000 from by simp only [strLen_append, e1, e2, e3, e4, e5, e6]; omega) big, ?_⟩
    refine ⟨by show 2 ≤ sizeLine; decide, fun tl htl => ?_⟩
    have s1 : Same H (upd H tl (.lst [.str ("at least " ++ ntS lo ++ " " ++ sumT ks), .str ("at most " ++ ntS hi ++ " " ++ sumT ks)])) := Same.new htl
    have g1 : (upd H tl (.lst [.str ("at least " ++ ntS lo ++ " " ++ sumT ks), .str ("at most " ++ ntS hi ++ " " ++ sumT ks)])) tl = some (.lst [.str ("at least " ++ ntS lo ++ " " ++ sumT ks), .str ("at most " ++ ntS hi ++ " " ++ sumT ks)]) := upd_same
    have eU : upd H tl (.lst [.str ("at least " ++ ntS lo ++ " " ++ sumT ks), .str ("at most " ++ ntS hi ++ " " ++ sumT ks)]) = upd H tl (.lst [.str ("at least " ++ Str.ofString (toString lo) ++ " " ++ Txt.join " + " ks), .str ("at most " ++ Str.ofString (toString hi) ++ " " ++ Txt.join " + " ks)]) := rfl
    rw [eU] at s1 g1
    generalize upd H tl (.lst [.str ("at least " ++ Str.ofString (toString lo) ++ " " ++ Txt.join " + " ks), .str ("at most " ++ Str.ofString (toString hi) ++ " " ++ Txt.join " + " ks)]) = H1 at s1 g1
    refine ⟨_, rfl, .inl ⟨rfl, _, SqL.of g1⟩, _, rfl, lo, rfl, Nat.lt_trans (log9 hlo) (by decide), _, _, rfl, rfl, Nat.le_trans (show _ ≤ 9000 from by simp only [strLen_append, e1, e2, e3, e4, e5, e6]; omega) big, _, _, rfl, rfl, Nat.le_trans (show _ ≤ 9000 from by simp only [strLen_append, e1, e2, e3, e4, e5, e6]; omega) big, _, rfl, hi, rfl, Nat.lt_trans (log9 hhi) (by decide), _, _, rfl, rfl, Nat.le_trans (show _ ≤ 9000 from by simp only [strLen_append, e1, e2, e3, e4, e5, e6]; omega) big, _, _, rfl, rfl, Nat.le_trans (show _ ≤ 9000 from by simp only [strLen_append, e1, e2, e3, e4, e5, e6]; omega) big, _, rfl, _, _, rfl, rfl, Nat.le_trans (show _ ≤ 9000 from by simp only [strLen_append, e1, e2, e3, e4, e5, e6]; omega) big, ?_⟩
    refine ⟨tl, _, _, rfl, rfl, g1, by show 2 < sizeLine; decide, ?_⟩
    have g2 : (upd H1 tl (.lst ([.str ("at least " ++ ntS lo ++ " " ++ sumT ks), .str ("at most " ++ ntS hi ++ " " ++ sumT ks)] ++ [.str ("from " ++ ntS lo ++ " to " ++ ntS hi ++ " " ++ sumT ks)]))) tl = some (.lst [.str ("at least " ++ ntS lo ++ " " ++ sumT ks), .str ("at most " ++ ntS hi ++ " " ++ sumT ks), .str ("from " ++ ntS lo ++ " to " ++ ntS hi ++ " " ++ sumT ks)]) := upd_same
    have kq : ∀ b o, H b = some o → (upd H1 tl (.lst ([.str ("at least " ++ ntS lo ++ " " ++ sumT ks), .str ("at most " ++ ntS hi ++ " " ++ sumT ks)] ++ [.str ("from " ++ ntS lo ++ " to " ++ ntS hi ++ " " ++ sumT ks)]))) b = some o := fun b o e => by rw [upd_ne (ne_of_none e htl)]; exact s1 _ _ e
    refine ⟨_, rfl, _, rfl, lo, rfl, Nat.lt_trans (log9 hlo) (by decide), _, _, rfl, rfl, Nat.le_trans (show _ ≤ 9000 from by simp only [strLen_append, e1, e2, e3, e4, e5, e6]; omega) big, _, _, rfl, rfl, Nat.le_trans (show _ ≤ 9000 from by simp only [strLen_append, e1, e2, e3, e4, e5, e6]; omega) big, _, rfl, _, _, rfl, rfl, Nat.le_trans (show _ ≤ 9000 from by simp only [strLen_append, e1, e2, e3, e4, e5, e6]; omega) big, ?_⟩
    refine ⟨by show 1 ≤ sizeLine; decide, fun b hb => ?_⟩
    have nb : tl ≠ b := ne_of_none g2 hb
    refine ⟨tl, b, _, _, rfl, rfl, (upd_ne nb).trans g2, upd_same, by show 4 ≤ sizeLine; decide, fun q hq => ?_⟩
    refine k q _ ((same2 kq hb).free hq) ((same2 kq hb).trans (Same.new hq)) ?_
    rw [upd_same]
    rfl
theorem ok_whatT {f fR B fX : Addr} {fd fdR fdX : FuncData} {ce : Addr} (F : Fun K "_law_what" "_law_what" s_l_what f fd) (g : Bi mg) (FRr : Def P w K mg base (L2.CX P w) 9 "read_rule" ["text"] (spReadX B) fR fdR)
    (XB : XDef P w K mg base "BadRule" B fX "what" ["self", "what"] fdX) (EC : ExcC K B) (XF : XfC K B) (hno : PySem.W.findIn K (.ref B) "what" = some none) (mCE : mg "CountsheldError" = some (.ref ce)) (k1 : PySem.W.kitOne K (.ref B) (.ref ce) = some true) :
    FnOk P w K mg base CX0 10 f fd ["_law_text"] spWhatT := by
  obtain ⟨GRr, mRr, _, bRr⟩ := id FRr
  refine F.ok sc_l_what (fun vs H Q E h => ?_) (fun cdv A outer s H vs Q E hr h => ?_)
  · obtain ⟨_, rfl, _⟩ := h
    rfl
  · obtain ⟨v, rfl, h⟩ := h
    have hrRr : Room 9 _ := hr
    refine ⟨_, (pss_cons (ps_try_as (i := 1) rfl rfl sc_l_what.nd rfl rfl ⟨rfl, by decide, Or.inl XB.mg_⟩ takes0
          (fun W pn xe tk _ => pss_one (ps_expr (pe_callS GRr hrRr rfl mRr FRr.kp bRr (fun σ => passAt tk σ) (pa_cons (pv 0) pa_nil))))
          (fun a oe cls d pn hz hf => pss_one (ps_ret (pe_ifExp (pt_val (pe_callB (call_isD hz hf) (by rfl) g.isinstance (by decide +kernel) (pa_cons (pv 1) (pa_cons (pe_glob (v := .ref ce) rfl mCE rfl) pa_nil)))) (pe_xf XF hno hz hf (pv 1)) pe_str))))
      (pss_one (ps_ret pe_str))), ?_⟩
    rcases h with ⟨hv, hn, k⟩ | ⟨ws, hT, rfl, k⟩
    · refine ⟨_, rfl, v, rfl, .inl ⟨hv, hn, fun H' dd s' hdd => ⟨true, XB.te, fun _ a ha => ?_, fun q => Bool.noConfusion q⟩⟩⟩
      refine ⟨_, rfl, B, dd, _, _, _, _, EC, rfl, rfl, upd_same, rfl, fun _ q => q, k1, _, rfl, iteT ?_⟩
      exact ⟨_, rfl, rfl, rfl, dd, _, _, rfl, upd_same, rfl, k _ (s'.trans (Same.new hdd))⟩
    have bad : ∀ (z : Str), whatT ws = z → ∀ (H' : Hp) (dd : Addr), Same H H' → H' dd = none → Q (.str z) (upd H' dd (.xd [(("what" : Str), .str z)])) := fun z e H' dd s' hdd => by
      have q := k _ (s'.trans (Same.new (o := .xd [(("what" : Str), .str z)]) hdd))
      rw [e] at q
      exact q
    refine ⟨_, rfl, _, rfl, .inr ⟨ws, hT, rfl, fun e H' dd s' hdd => ?_, fun c ns ks e => ⟨fun e1 H' dd s' hdd => ?_, fun e1 e2 H' dd s' hdd => ?_, fun e1 e2 v H' s' => ?_⟩⟩⟩
    · refine ⟨true, XB.te, fun _ a ha => ?_, fun q => Bool.noConfusion q⟩
      refine ⟨_, rfl, B, dd, _, _, _, _, EC, rfl, rfl, upd_same, rfl, fun _ q => q, k1, _, rfl, iteT ?_⟩
      exact ⟨_, rfl, rfl, rfl, dd, _, _, rfl, upd_same, rfl, bad "text" (what_none e) H' dd s' hdd⟩
    · refine ⟨true, XB.te, fun _ a ha => ?_, fun q => Bool.noConfusion q⟩
      refine ⟨_, rfl, B, dd, _, _, _, _, EC, rfl, rfl, upd_same, rfl, fun _ q => q, k1, _, rfl, iteT ?_⟩
      refine ⟨_, rfl, rfl, rfl, dd, _, _, rfl, upd_same, rfl, bad "number" ?_ H' dd s' hdd⟩
      unfold whatT; rw [e]; exact if_pos e1
    · refine ⟨true, XB.te, fun _ a ha => ?_, fun q => Bool.noConfusion q⟩
      refine ⟨_, rfl, B, dd, _, _, _, _, EC, rfl, rfl, upd_same, rfl, fun _ q => q, k1, _, rfl, iteT ?_⟩
      refine ⟨_, rfl, rfl, rfl, dd, _, _, rfl, upd_same, rfl, bad "kinds" ?_ H' dd s' hdd⟩
      unfold whatT; rw [e]; exact (if_neg (by rw [e1]; decide)).trans (if_pos e2)
    · have q := k H' s'
      rw [show whatT ws = "" by unfold whatT; rw [e]; exact (if_neg (by rw [e1]; decide)).trans (if_neg (by rw [e2]; decide))] at q
      exact q
theorem ok_noStr {f : Addr} {fd : FuncData} (F : Fun K "_law_no_string" "_law_no_string" s_l_no_string f fd) (g : Bi mg) : FnOk P w K mg base CX0 1 f fd ["_law_choice"] spNoStr := by
  refine F.ok sc_l_no_string (fun vs H Q E h => ?_) (fun cdv A outer s H vs Q E hr h => ?_)
  · obtain ⟨_, rfl, _⟩ := h
    rfl
  · obtain ⟨c, rfl, c0, c7, k⟩ := h
    refine ⟨_, (pss_one (ps_ret (pe_ix ix_list (pe_lst (pa_cons pe_non (pa_cons pe_int (pa_cons pe_bl (pa_cons (pe_lst (pa_cons pe_str pa_nil)) (pa_cons (pe_tup (pa_cons pe_str pa_nil)) (pa_cons (pe_op op_pow pe_int pe_int) (pa_cons (pe_lst pa_nil) pa_nil)))))))) (pv 0) (fun _ _ => rfl)))), ?_⟩
    refine ⟨by show 1 ≤ sizeLine; decide, fun l1 hl1 => ?_⟩
    have s1 : Same H (upd H l1 (.lst [.str "exactly 1 a"])) := Same.new hl1
    have g1 : (upd H l1 (.lst [.str "exactly 1 a"])) l1 = some (.lst [.str "exactly 1 a"]) := upd_same
    generalize upd H l1 (.lst [.str "exactly 1 a"]) = H1 at s1 g1
    refine ⟨by show 1 ≤ sizeLine; decide, fun l2 hl2 => ?_⟩
    have s2 : Same H1 (upd H1 l2 (.tup [.str "exactly 1 a"])) := Same.new hl2
    have g2 : (upd H1 l2 (.tup [.str "exactly 1 a"])) l2 = some (.tup [.str "exactly 1 a"]) := upd_same
    generalize upd H1 l2 (.tup [.str "exactly 1 a"]) = H2 at s2 g2
    refine ⟨_, _, rfl, rfl, ⟨by decide, by decide, by decide⟩, by show 0 ≤ sizeLine; decide, fun l3 hl3 => ?_⟩
    have s3 : Same H2 (upd H2 l3 (.lst [])) := Same.new hl3
    have g3 : (upd H2 l3 (.lst [])) l3 = some (.lst []) := upd_same
    generalize upd H2 l3 (.lst []) = H3 at s3 g3
    refine ⟨by show 7 ≤ sizeLine; decide, fun q hq => ?_⟩
    generalize hL : ([V.non, .int 5, .bl true, .ref l1, .ref l2, .int (10 ^ (29 : Int).toNat), .ref l3] : List V) = L
    have s4 : Same H3 (upd H3 q (.lst L)) := Same.new hq
    have g4 : (upd H3 q (.lst L)) q = some (.lst L) := upd_same
    generalize upd H3 q (.lst L) = H4 at s4 g4
    obtain ⟨v, hv, vo, vb⟩ : ∃ v, atI L c = some v ∧ VO H4 v ∧ notS v := by
      rw [← hL]
      rcases (show c = 0 ∨ c = 1 ∨ c = 2 ∨ c = 3 ∨ c = 4 ∨ c = 5 ∨ c = 6 by omega) with rfl | rfl | rfl | rfl | rfl | rfl | rfl
      · exact ⟨_, rfl, .non, trivial⟩
      · exact ⟨_, rfl, .int _, trivial⟩
      · exact ⟨_, rfl, .bl _, trivial⟩
      · exact ⟨_, rfl, .lst (((s2.trans s3).trans s4) _ _ g1), trivial⟩
      · exact ⟨_, rfl, .tup ((s3.trans s4) _ _ g2), trivial⟩
      · exact ⟨_, rfl, .int _, trivial⟩
      · exact ⟨_, rfl, .lst (s4 _ _ g3), trivial⟩
    exact ⟨_, rfl, q, _, _, v, rfl, rfl, SqL.of g4, hv, k v H4 (((s1.trans s2).trans s3).trans s4) vo vb⟩
theorem ok_faulty {f : Addr} {fd : FuncData} (F : Fun K "_law_faulty" "_law_faulty" s_l_faulty f fd) (g : Bi mg) : FnOk P w K mg base CX0 1 f fd ["_law_choice", "_law_mode", "_law_text", "_law_names"] spFaulty := by
  refine F.ok sc_l_faulty (fun vs H Q E h => ?_) (fun cdv A outer s H vs Q E hr h => ?_)
  · obtain ⟨_, _, _, _, _, rfl, _⟩ := h
    rfl
  · obtain ⟨c, j, lo, hi, ks, rfl, c0, c19, j4, hlo, hhi, hK, k⟩ := h
    have hW := hK.kw
    have hne := kw_ne hW
    have lT := form_len hlo hhi hW j
    have lN := kw_len hW
    have eT := form_flat lo hi ks j
    have hd : Bnd9 (dgI lo hi j) := by
      match j with
      | 0 => exact hlo
      | 1 => exact hhi
      | 2 => exact hhi
      | _ + 3 => exact hlo
    generalize dgI lo hi j = d at eT hd
    have dl := nt_len hd
    generalize formS lo hi ks j = T at lT eT ⊢
    have eN := sum_sepX hne
    have eU : Txt.upper (sumT ks) = sumT (ks.map upT) := upper_sum hW.wd hne
    have lU : (Txt.upper (sumT ks)).length ≤ 200 := by
      rw [PyProof.Rows.upper_ascii (sum_ascii hW.wd hne)]
      show ((sumT ks).cps.map PyProof.Rows.up1).size ≤ 200
      rw [Array.size_map]
      exact Nat.le_trans lN (by decide)
    generalize sumT ks = N at lN eT eN eU lU ⊢
    obtain ⟨A, eA⟩ : ∃ A, A = flatT (hwT j lo) := ⟨_, rfl⟩
    obtain ⟨R, eR⟩ : ∃ R, R = A ++ ntS d ++ (((" " : String) : Str)) := ⟨_, rfl⟩
    have e1 : (((" " : String) : Str)).length = 1 := rfl
    have eTR : T = R ++ N := by rw [eT, eR, eA]
    have lTR : T.length = R.length + N.length := by rw [eTR, strLen_append]
    have lRA : R.length = A.length + 1 + 1 := by rw [eR, strLen_append, strLen_append, dl, e1]
    have big : 9000 ≤ sizeLine := by decide
    have bnd : ∀ {n : Nat}, n ≤ 9000 → n ≤ sizeLine := fun h => Nat.le_trans h big
    have big9 : R.length ≤ 9000 → R.length ≤ sizeLine := fun h => Nat.le_trans h big
    have big5 : N.length ≤ 9000 → N.length ≤ 5592405 := fun h => Nat.le_trans h (by decide)
    have hLT : T.length ≤ sizeLine := bnd (by omega)
    have hLN : N.length ≤ sizeLine := bnd (by omega)
    have hLR : R.length ≤ sizeLine := bnd (by omega)
    have hcut : ∀ i : Int, i = (T.length : Int) - (N.length : Int) → cutS T none (some i) = R := fun i hi => by rw [eTR]; exact cut_pre R N (by rw [hi, eTR])
    have hcut2 : cutS R none (some (-2)) = A := by rw [eR, PySem.Str.append_assoc]; exact cut_end A (ntS d ++ " ") (n := 2) (by rw [strLen_append, dl]; rfl) (by decide)
    have hcut1 : cutS R none (some (-1)) = A ++ ntS d := by rw [eR]; exact cut_end (A ++ ntS d) " " (n := 1) rfl (by decide)
    obtain ⟨cd, hcd, ecd⟩ : ∃ cd, atI R.cps.toList (-2) = some cd ∧ (⟨#[cd]⟩ : Str) = ntS d := by
      obtain ⟨m, _, _, em, _⟩ := ntS_dig hd
      refine ⟨48 + m, ?_, em.symm⟩
      rw [eR, em, PySem.Str.cps_append, PySem.Str.cps_append, Array.toList_append, Array.toList_append, List.append_assoc]
      exact at_two _ _ 32
    have lU2 : True := trivial
    have lD : (⟨#[cd]⟩ : Str).length = 1 := rfl
    obtain ⟨D, eD⟩ : ∃ D : Str, D = ⟨#[cd]⟩ := ⟨_, rfl⟩
    have eDd : D = ntS d := eD.trans ecd
    rw [← eD] at lD
    have lO := (optF j j4).2.1
    have hO : ∀ L : List V, ([V.str (("at " : String) : Str), .str (("at " : String) : Str), .str (("from 1 till " : String) : Str), .str (("exact " : String) : Str)] : List V) = L → atI L (j : Int) = some (.str (optT j)) := fun L h => by
      rw [← h]
      match j, j4 with
      | 0, _ => rfl
      | 1, _ => rfl
      | 2, _ => rfl
      | 3, _ => rfl
    have el0 : (("" : String) : Str).length = 0 := rfl
    have el1 : ((" " : String) : Str).length = 1 := rfl
    have el2 : (("1" : String) : Str).length = 1 := rfl
    have el3 : (("+" : String) : Str).length = 1 := rfl
    have el4 : ((" +" : String) : Str).length = 2 := rfl
    have el5 : (("+ " : String) : Str).length = 2 := rfl
    have el6 : ((" + " : String) : Str).length = 3 := rfl
    have el7 : ((" and more" : String) : Str).length = 9 := rfl
    have el8 : (("\n" : String) : Str).length = 1 := rfl
    have el9 : (("x " : String) : Str).length = 2 := rfl
    have el10 : (("aaaaaaaaa" : String) : Str).length = 9 := rfl
    have el11 : ((" + +" : String) : Str).length = 4 := rfl
    have el12 : (("at " : String) : Str).length = 3 := rfl
    have el13 : (("from 1 till " : String) : Str).length = 12 := rfl
    have el14 : (("exact " : String) : Str).length = 6 := rfl
    refine ⟨_, (pss_cons (ps_set (i := 4) sc_l_faulty.nd rfl (Or.inl rfl) (pe_slice sl_str (pv 2) po_none (po_some (pe_op op_sub (pe_callB call_len_str (by rfl) g.len PySem.boot_len (pa_cons (pv 2) pa_nil)) (pe_callB call_len_str (by rfl) g.len PySem.boot_len (pa_cons (pv 3) pa_nil))))))
      (pss_cons (ps_set (i := 5) sc_l_faulty.nd rfl (Or.inl rfl) (pe_ix ix_str (pv 4) (pe_un un_neg pe_int) (fun _ _ => rfl)))
      (pss_cons (ps_set (i := 6) sc_l_faulty.nd rfl (Or.inl rfl) (pe_slice sl_str (pv 4) po_none (po_some (pe_un un_neg pe_int))))
      (pss_cons (ps_set (i := 7) sc_l_faulty.nd rfl (Or.inl rfl) (pe_lst (pa_cons pe_str (pa_cons (pe_op op_add_str pe_str (pv 2)) (pa_cons (pe_op op_add_str (pv 2) pe_str) (pa_cons (pe_op op_add_str (pe_op op_add_str (pv 4) pe_str) (pv 3)) (pa_cons (pe_op op_add_str (pe_op op_add_str (pe_op op_add_str (pe_op op_add_str (pv 6) pe_str) (pv 5)) pe_str) (pv 3)) (pa_cons (pe_op op_add_str (pe_op op_add_str (pe_op op_add_str (pv 6) pe_str) (pv 5)) pe_str) pa_nil))))))))
      (pss_cons (ps_asg (pe_op op_add_str (pe_ix ix_list (pv 7) pe_int (fun _ _ => rfl)) (pv 3)) (pg_sub (pv 7) pe_int set_list))
      (pss_cons (ps_set (i := 7) sc_l_faulty.nd rfl (Or.inl rfl) (pe_op op_cat (pv 7) (pe_lst (pa_cons (pe_op op_add_str (pv 6) (pv 3)) (pa_cons (pv 4) (pa_cons (pe_slice sl_str (pv 4) po_none (po_some (pe_un un_neg pe_int))) (pa_cons (pe_op op_add_str (pv 2) pe_str) (pa_cons (pe_op op_add_str (pe_op op_add_str (pv 4) pe_str) (pv 3)) (pa_cons (pe_op op_add_str (pv 2) pe_str) (pa_cons (pe_op op_add_str (pv 2) pe_str) pa_nil))))))))))
      (pss_cons (ps_set (i := 7) sc_l_faulty.nd rfl (Or.inl rfl) (pe_op op_cat (pv 7) (pe_lst (pa_cons (pe_op op_add_str (pv 4) (pe_m0 PySem.F.slot_str_upper PySem.F.type_str_upper mt_upper (pv 3))) (pa_cons (pe_op op_add_str (pv 2) pe_str) (pa_cons (pe_op op_add_str (pe_op op_add_str (pv 6) pe_str) (pv 3)) (pa_cons (pe_op op_add_str (pv 4) pe_str) (pa_cons (pe_op op_add_str (pv 2) pe_str) pa_nil))))))))
      (pss_cons (ps_set (i := 7) sc_l_faulty.nd rfl (Or.inl rfl) (pe_op op_cat (pv 7) (pe_lst (pa_cons (pe_op op_add_str (pe_op op_add_str (pe_op op_add_str (pe_ix ix_list (pe_lst (pa_cons pe_str (pa_cons pe_str (pa_cons pe_str (pa_cons pe_str pa_nil))))) (pv 1) (fun _ _ => rfl)) (pv 5)) pe_str) (pv 3)) pa_nil))))
      (pss_one (ps_ret (pe_ix ix_list (pv 7) (pv 0) (fun _ _ => rfl)))))))))))), ?_⟩
    refine ⟨_, rfl, _, rfl, T, rfl, hLT, _, rfl, N, rfl, hLN, _, _, rfl, rfl, _, rfl, T, rfl, hLT, ?_⟩
    rw [hcut _ rfl]
    refine ⟨_, rfl, _, rfl, R, -2, cd, rfl, rfl, hLR, hcd, ?_⟩
    rw [← eD]
    refine ⟨_, rfl, _, rfl, _, rfl, R, rfl, hLR, ?_⟩
    rw [hcut2]
    refine ⟨_, rfl, _, _, rfl, rfl, (bnd (by first | (simp only [strLen_append, el0, el1, el2, el3, el4, el5, el6, el7, el8, el9, el10, el11, el12, el13, el14]; omega) | omega)), _, rfl, _, _, rfl, rfl, (bnd (by first | (simp only [strLen_append, el0, el1, el2, el3, el4, el5, el6, el7, el8, el9, el10, el11, el12, el13, el14]; omega) | omega)), _, rfl, _, _, rfl, rfl, (bnd (by first | (simp only [strLen_append, el0, el1, el2, el3, el4, el5, el6, el7, el8, el9, el10, el11, el12, el13, el14]; omega) | omega)), _, rfl, _, _, rfl, rfl, (bnd (by first | (simp only [strLen_append, el0, el1, el2, el3, el4, el5, el6, el7, el8, el9, el10, el11, el12, el13, el14]; omega) | omega)), _, rfl, _, _, rfl, rfl, (bnd (by first | (simp only [strLen_append, el0, el1, el2, el3, el4, el5, el6, el7, el8, el9, el10, el11, el12, el13, el14]; omega) | omega)), _, rfl, _, _, rfl, rfl, (bnd (by first | (simp only [strLen_append, el0, el1, el2, el3, el4, el5, el6, el7, el8, el9, el10, el11, el12, el13, el14]; omega) | omega)), _, _, rfl, rfl, (bnd (by first | (simp only [strLen_append, el0, el1, el2, el3, el4, el5, el6, el7, el8, el9, el10, el11, el12, el13, el14]; omega) | omega)), _, rfl, _, _, rfl, rfl, (bnd (by first | (simp only [strLen_append, el0, el1, el2, el3, el4, el5, el6, el7, el8, el9, el10, el11, el12, el13, el14]; omega) | omega)), _, rfl, _, _, rfl, rfl, (bnd (by first | (simp only [strLen_append, el0, el1, el2, el3, el4, el5, el6, el7, el8, el9, el10, el11, el12, el13, el14]; omega) | omega)), _, rfl, _, _, rfl, rfl, (bnd (by first | (simp only [strLen_append, el0, el1, el2, el3, el4, el5, el6, el7, el8, el9, el10, el11, el12, el13, el14]; omega) | omega)), _, _, rfl, rfl, (bnd (by first | (simp only [strLen_append, el0, el1, el2, el3, el4, el5, el6, el7, el8, el9, el10, el11, el12, el13, el14]; omega) | omega)), by show 6 ≤ sizeLine; decide, fun q1 hq1 => ?_⟩
    generalize hL1 : ([V.str (("" : String) : Str), .str (((" " : String) : Str) ++ T), .str (T ++ ((" " : String) : Str)), .str ((R ++ ((" " : String) : Str)) ++ N), .str ((((A ++ (("1" : String) : Str)) ++ D) ++ ((" " : String) : Str)) ++ N), .str (((A ++ (("+" : String) : Str)) ++ D) ++ ((" " : String) : Str))] : List V) = L1
    have s1 : Same H (upd H q1 (.lst L1)) := Same.new hq1
    have g1 : (upd H q1 (.lst L1)) q1 = some (.lst L1) := upd_same
    generalize upd H q1 (.lst L1) = H1 at s1 g1
    refine ⟨_, rfl, q1, _, _, (V.str (((A ++ (("+" : String) : Str)) ++ D) ++ ((" " : String) : Str))), rfl, rfl, SqL.of g1, by rw [← hL1]; rfl, _, rfl, _, _, rfl, rfl, (bnd (by first | (simp only [strLen_append, el0, el1, el2, el3, el4, el5, el6, el7, el8, el9, el10, el11, el12, el13, el14]; omega) | omega)), _, rfl, q1, _, _, 5, rfl, rfl, g1, by rw [← hL1]; rfl, ?_⟩
    have eS : L1.set 5 (.str ((((A ++ (("+" : String) : Str)) ++ D) ++ ((" " : String) : Str)) ++ N)) = [V.str (("" : String) : Str), .str (((" " : String) : Str) ++ T), .str (T ++ ((" " : String) : Str)), .str ((R ++ ((" " : String) : Str)) ++ N), .str ((((A ++ (("1" : String) : Str)) ++ D) ++ ((" " : String) : Str)) ++ N), .str ((((A ++ (("+" : String) : Str)) ++ D) ++ ((" " : String) : Str)) ++ N)] := by rw [← hL1]; rfl
    rw [eS]
    generalize hL2 : ([V.str (("" : String) : Str), .str (((" " : String) : Str) ++ T), .str (T ++ ((" " : String) : Str)), .str ((R ++ ((" " : String) : Str)) ++ N), .str ((((A ++ (("1" : String) : Str)) ++ D) ++ ((" " : String) : Str)) ++ N), .str ((((A ++ (("+" : String) : Str)) ++ D) ++ ((" " : String) : Str)) ++ N)] : List V) = L2
    have g2 : (upd H1 q1 (.lst L2)) q1 = some (.lst L2) := upd_same
    have s2 : Same H (upd H1 q1 (.lst L2)) := fun b o e => by rw [upd_ne (ne_of_none e hq1)]; exact s1 _ _ e
    generalize upd H1 q1 (.lst L2) = H2 at g2 s2
    refine ⟨_, rfl, _, rfl, _, rfl, _, _, rfl, rfl, (bnd (by first | (simp only [strLen_append, el0, el1, el2, el3, el4, el5, el6, el7, el8, el9, el10, el11, el12, el13, el14]; omega) | omega)), _, rfl, _, rfl, _, rfl, _, rfl, R, rfl, (big9 (by omega)), _, rfl, _, _, rfl, rfl, (bnd (by first | (simp only [strLen_append, el0, el1, el2, el3, el4, el5, el6, el7, el8, el9, el10, el11, el12, el13, el14]; omega) | omega)), _, rfl, _, _, rfl, rfl, (bnd (by first | (simp only [strLen_append, el0, el1, el2, el3, el4, el5, el6, el7, el8, el9, el10, el11, el12, el13, el14]; omega) | omega)), _, rfl, _, _, rfl, rfl, (bnd (by first | (simp only [strLen_append, el0, el1, el2, el3, el4, el5, el6, el7, el8, el9, el10, el11, el12, el13, el14]; omega) | omega)), _, rfl, _, _, rfl, rfl, (bnd (by first | (simp only [strLen_append, el0, el1, el2, el3, el4, el5, el6, el7, el8, el9, el10, el11, el12, el13, el14]; omega) | omega)), _, rfl, _, _, rfl, rfl, (bnd (by first | (simp only [strLen_append, el0, el1, el2, el3, el4, el5, el6, el7, el8, el9, el10, el11, el12, el13, el14]; omega) | omega)), by show 7 ≤ sizeLine; decide, fun q3 hq3 => ?_⟩
    generalize hL3 : ([V.str (A ++ N), .str R, .str (cutS R none (some (-1))), .str (T ++ ((" +" : String) : Str)), .str ((R ++ (("+ " : String) : Str)) ++ N), .str (T ++ ((" + " : String) : Str)), .str (T ++ ((" and more" : String) : Str))] : List V) = L3
    have s3 : Same H2 (upd H2 q3 (.lst L3)) := Same.new hq3
    have g3 : (upd H2 q3 (.lst L3)) q3 = some (.lst L3) := upd_same
    generalize upd H2 q3 (.lst L3) = H3 at s3 g3
    refine ⟨q1, q3, _, _, rfl, rfl, s3 _ _ g2, g3, ?_, fun q4 hq4 => ?_⟩
    · rw [← hL2, ← hL3]; show 6 + 7 ≤ sizeLine; decide
    have eC4 : L2 ++ L3 = [V.str (("" : String) : Str), .str (((" " : String) : Str) ++ T), .str (T ++ ((" " : String) : Str)), .str ((R ++ ((" " : String) : Str)) ++ N), .str ((((A ++ (("1" : String) : Str)) ++ D) ++ ((" " : String) : Str)) ++ N), .str ((((A ++ (("+" : String) : Str)) ++ D) ++ ((" " : String) : Str)) ++ N), .str (A ++ N), .str R, .str (cutS R none (some (-1))), .str (T ++ ((" +" : String) : Str)), .str ((R ++ (("+ " : String) : Str)) ++ N), .str (T ++ ((" + " : String) : Str)), .str (T ++ ((" and more" : String) : Str))] := by rw [← hL2, ← hL3]; rfl
    rw [eC4]
    generalize hL4 : ([V.str (("" : String) : Str), .str (((" " : String) : Str) ++ T), .str (T ++ ((" " : String) : Str)), .str ((R ++ ((" " : String) : Str)) ++ N), .str ((((A ++ (("1" : String) : Str)) ++ D) ++ ((" " : String) : Str)) ++ N), .str ((((A ++ (("+" : String) : Str)) ++ D) ++ ((" " : String) : Str)) ++ N), .str (A ++ N), .str R, .str (cutS R none (some (-1))), .str (T ++ ((" +" : String) : Str)), .str ((R ++ (("+ " : String) : Str)) ++ N), .str (T ++ ((" + " : String) : Str)), .str (T ++ ((" and more" : String) : Str))] : List V) = L4
    have s4 : Same H3 (upd H3 q4 (.lst L4)) := Same.new hq4
    have g4 : (upd H3 q4 (.lst L4)) q4 = some (.lst L4) := upd_same
    generalize upd H3 q4 (.lst L4) = H4 at s4 g4
    have sA4 := (s2.trans s3).trans s4
    refine ⟨_, rfl, _, rfl, _, rfl, ⟨_, rfl⟩, N, rfl, rfl, (big5 (by omega)), _, _, rfl, rfl, (bnd (by first | (simp only [strLen_append, el0, el1, el2, el3, el4, el5, el6, el7, el8, el9, el10, el11, el12, el13, el14]; omega) | omega)), _, rfl, _, _, rfl, rfl, (bnd (by first | (simp only [strLen_append, el0, el1, el2, el3, el4, el5, el6, el7, el8, el9, el10, el11, el12, el13, el14]; omega) | omega)), _, rfl, _, _, rfl, rfl, (bnd (by first | (simp only [strLen_append, el0, el1, el2, el3, el4, el5, el6, el7, el8, el9, el10, el11, el12, el13, el14]; omega) | omega)), _, rfl, _, _, rfl, rfl, (bnd (by first | (simp only [strLen_append, el0, el1, el2, el3, el4, el5, el6, el7, el8, el9, el10, el11, el12, el13, el14]; omega) | omega)), _, rfl, _, _, rfl, rfl, (bnd (by first | (simp only [strLen_append, el0, el1, el2, el3, el4, el5, el6, el7, el8, el9, el10, el11, el12, el13, el14]; omega) | omega)), _, rfl, _, _, rfl, rfl, (bnd (by first | (simp only [strLen_append, el0, el1, el2, el3, el4, el5, el6, el7, el8, el9, el10, el11, el12, el13, el14]; omega) | omega)), by show 5 ≤ sizeLine; decide, fun q5 hq5 => ?_⟩
    generalize hL5 : ([V.str (R ++ Txt.upper N), .str (T ++ (("\n" : String) : Str)), .str ((A ++ (("x " : String) : Str)) ++ N), .str (R ++ (("aaaaaaaaa" : String) : Str)), .str (T ++ ((" + +" : String) : Str))] : List V) = L5
    have s5 : Same H4 (upd H4 q5 (.lst L5)) := Same.new hq5
    have g5 : (upd H4 q5 (.lst L5)) q5 = some (.lst L5) := upd_same
    generalize upd H4 q5 (.lst L5) = H5 at s5 g5
    refine ⟨q4, q5, _, _, rfl, rfl, s5 _ _ g4, g5, ?_, fun q6 hq6 => ?_⟩
    · rw [← hL4, ← hL5]; show 13 + 5 ≤ sizeLine; decide
    have eC6 : L4 ++ L5 = [V.str (("" : String) : Str), .str (((" " : String) : Str) ++ T), .str (T ++ ((" " : String) : Str)), .str ((R ++ ((" " : String) : Str)) ++ N), .str ((((A ++ (("1" : String) : Str)) ++ D) ++ ((" " : String) : Str)) ++ N), .str ((((A ++ (("+" : String) : Str)) ++ D) ++ ((" " : String) : Str)) ++ N), .str (A ++ N), .str R, .str (cutS R none (some (-1))), .str (T ++ ((" +" : String) : Str)), .str ((R ++ (("+ " : String) : Str)) ++ N), .str (T ++ ((" + " : String) : Str)), .str (T ++ ((" and more" : String) : Str)), .str (R ++ Txt.upper N), .str (T ++ (("\n" : String) : Str)), .str ((A ++ (("x " : String) : Str)) ++ N), .str (R ++ (("aaaaaaaaa" : String) : Str)), .str (T ++ ((" + +" : String) : Str))] := by rw [← hL4, ← hL5]; rfl
    rw [eC6]
    generalize hL6 : ([V.str (("" : String) : Str), .str (((" " : String) : Str) ++ T), .str (T ++ ((" " : String) : Str)), .str ((R ++ ((" " : String) : Str)) ++ N), .str ((((A ++ (("1" : String) : Str)) ++ D) ++ ((" " : String) : Str)) ++ N), .str ((((A ++ (("+" : String) : Str)) ++ D) ++ ((" " : String) : Str)) ++ N), .str (A ++ N), .str R, .str (cutS R none (some (-1))), .str (T ++ ((" +" : String) : Str)), .str ((R ++ (("+ " : String) : Str)) ++ N), .str (T ++ ((" + " : String) : Str)), .str (T ++ ((" and more" : String) : Str)), .str (R ++ Txt.upper N), .str (T ++ (("\n" : String) : Str)), .str ((A ++ (("x " : String) : Str)) ++ N), .str (R ++ (("aaaaaaaaa" : String) : Str)), .str (T ++ ((" + +" : String) : Str))] : List V) = L6
    have s6 : Same H5 (upd H5 q6 (.lst L6)) := Same.new hq6
    have g6 : (upd H5 q6 (.lst L6)) q6 = some (.lst L6) := upd_same
    generalize upd H5 q6 (.lst L6) = H6 at s6 g6
    have sA6 := (sA4.trans s5).trans s6
    refine ⟨_, rfl, by show 4 ≤ sizeLine; decide, fun q7 hq7 => ?_⟩
    generalize hL7 : ([V.str (("at " : String) : Str), .str (("at " : String) : Str), .str (("from 1 till " : String) : Str), .str (("exact " : String) : Str)] : List V) = L7
    have s7 : Same H6 (upd H6 q7 (.lst L7)) := Same.new hq7
    have g7 : (upd H6 q7 (.lst L7)) q7 = some (.lst L7) := upd_same
    generalize upd H6 q7 (.lst L7) = H7 at s7 g7
    refine ⟨_, rfl, q7, _, _, .str (optT j), rfl, rfl, SqL.of g7, hO L7 hL7, ?_⟩
    have sO := sA6.trans s7
    have gO := s7 _ _ g6
    refine ⟨_, rfl, _, _, rfl, rfl, (bnd (by first | (simp only [strLen_append, el0, el1, el2, el3, el4, el5, el6, el7, el8, el9, el10, el11, el12, el13, el14]; omega) | omega)), _, _, rfl, rfl, (bnd (by first | (simp only [strLen_append, el0, el1, el2, el3, el4, el5, el6, el7, el8, el9, el10, el11, el12, el13, el14]; omega) | omega)), _, rfl, _, _, rfl, rfl, (bnd (by first | (simp only [strLen_append, el0, el1, el2, el3, el4, el5, el6, el7, el8, el9, el10, el11, el12, el13, el14]; omega) | omega)), by show 1 ≤ sizeLine; decide, fun q8 hq8 => ?_⟩
    generalize hL8 : ([V.str (((optT j ++ D) ++ ((" " : String) : Str)) ++ N)] : List V) = L8
    have s8 : Same H7 (upd H7 q8 (.lst L8)) := Same.new hq8
    have g8 : (upd H7 q8 (.lst L8)) q8 = some (.lst L8) := upd_same
    generalize upd H7 q8 (.lst L8) = H8 at s8 g8
    refine ⟨q6, q8, _, _, rfl, rfl, s8 _ _ gO, g8, ?_, fun q9 hq9 => ?_⟩
    · rw [← hL6, ← hL8]; show 18 + 1 ≤ sizeLine; decide
    have eC9 : L6 ++ L8 = [V.str (("" : String) : Str), .str (((" " : String) : Str) ++ T), .str (T ++ ((" " : String) : Str)), .str ((R ++ ((" " : String) : Str)) ++ N), .str ((((A ++ (("1" : String) : Str)) ++ D) ++ ((" " : String) : Str)) ++ N), .str ((((A ++ (("+" : String) : Str)) ++ D) ++ ((" " : String) : Str)) ++ N), .str (A ++ N), .str R, .str (cutS R none (some (-1))), .str (T ++ ((" +" : String) : Str)), .str ((R ++ (("+ " : String) : Str)) ++ N), .str (T ++ ((" + " : String) : Str)), .str (T ++ ((" and more" : String) : Str)), .str (R ++ Txt.upper N), .str (T ++ (("\n" : String) : Str)), .str ((A ++ (("x " : String) : Str)) ++ N), .str (R ++ (("aaaaaaaaa" : String) : Str)), .str (T ++ ((" + +" : String) : Str)), .str (((optT j ++ D) ++ ((" " : String) : Str)) ++ N)] := by rw [← hL6, ← hL8]; rfl
    rw [eC9]
    generalize hL9 : ([V.str (("" : String) : Str), .str (((" " : String) : Str) ++ T), .str (T ++ ((" " : String) : Str)), .str ((R ++ ((" " : String) : Str)) ++ N), .str ((((A ++ (("1" : String) : Str)) ++ D) ++ ((" " : String) : Str)) ++ N), .str ((((A ++ (("+" : String) : Str)) ++ D) ++ ((" " : String) : Str)) ++ N), .str (A ++ N), .str R, .str (cutS R none (some (-1))), .str (T ++ ((" +" : String) : Str)), .str ((R ++ (("+ " : String) : Str)) ++ N), .str (T ++ ((" + " : String) : Str)), .str (T ++ ((" and more" : String) : Str)), .str (R ++ Txt.upper N), .str (T ++ (("\n" : String) : Str)), .str ((A ++ (("x " : String) : Str)) ++ N), .str (R ++ (("aaaaaaaaa" : String) : Str)), .str (T ++ ((" + +" : String) : Str)), .str (((optT j ++ D) ++ ((" " : String) : Str)) ++ N)] : List V) = L9
    have s9 : Same H8 (upd H8 q9 (.lst L9)) := Same.new hq9
    have g9 : (upd H8 q9 (.lst L9)) q9 = some (.lst L9) := upd_same
    generalize upd H8 q9 (.lst L9) = H9 at s9 g9
    have sA9 := (sO.trans s8).trans s9
    obtain ⟨so, so7⟩ := sep_odd hW.lo hW.hi
    have tS : ∀ z ∈ sepK ks, Tok z := sep_tok fun z m => word_tok (hW.wd z m)
    have td := nt_tok hd
    have sne : sepK ks ≠ [] := sepK_ne' hne
    obtain ⟨x0, r0, es⟩ : ∃ x r, sepK ks = x :: r := by cases h : sepK ks with | nil => exact absurd h sne | cons x r => exact ⟨x, r, rfl⟩
    have tl0 : ∀ {z : Str}, (decide (32 ∉ TL.tl z) && (PyData.strOk z && decide (z.length ≤ 200))) = true → Tok z := fun h => lit_tok h
    have tc : ∀ {x : Str} {r : List Str}, Tok x → (∀ z ∈ r, Tok z) → ∀ z ∈ x :: r, Tok z := fun h1 h2 z m => by rcases List.mem_cons.mp m with e | e; rw [e]; exact h1; exact h2 z e
    have ta : ∀ {r t : List Str}, (∀ z ∈ r, Tok z) → (∀ z ∈ t, Tok z) → ∀ z ∈ r ++ t, Tok z := fun h1 h2 z m => by rcases List.mem_append.mp m with e | e; exact h1 z e; exact h2 z e
    have t0 : ∀ z ∈ ([] : List Str), Tok z := fun z m => by cases m
    have up_no : okN (sepK (ks.map upT)) = false := by
      rw [(sep_okN (by rw [List.length_map]; exact hW.lo) (by rw [List.length_map]; exact hW.hi)).1]
      cases ks with
      | nil => exact absurd rfl hne
      | cons x r => rw [List.map_cons, List.all_cons, upT_no (hW.wd x List.mem_cons_self)]; rfl
    have tU : ∀ z ∈ sepK (ks.map upT), Tok z := sep_tok fun z m => by obtain ⟨y, hy, rfl⟩ := List.mem_map.mp m; exact upT_tok (hW.wd y hy)
    obtain ⟨nl, nle, nll, nlh, tN, nl_no⟩ : ∃ nl : List Str, Str.join " " (sepK nl) = Str.join " " (sepK ks) ++ (("\n" : String) : Str) ∧ 1 ≤ nl.length ∧ nl.length ≤ 4 ∧ (∀ z ∈ sepK nl, Tok z) ∧ okN (sepK nl) = false := nl_of hK
    have fin : ∀ (z : Str) (ws : List Str), atI L9 c = some (.str z) → z = Txt.join " " ws → TokL ws → readT ws = none → ∃ v, atI L9 c = some v ∧ Q v H9 := fun z ws h1 h2 h3 h4 => ⟨_, h1, by rw [h2]; exact k ws _ sA9 h3 h4⟩
    obtain ⟨v, hv, q⟩ : ∃ v, atI L9 c = some v ∧ Q v H9 := by
      rcases (show c = 0 ∨ c = 1 ∨ c = 2 ∨ c = 3 ∨ c = 4 ∨ c = 5 ∨ c = 6 ∨ c = 7 ∨ c = 8 ∨ c = 9 ∨ c = 10 ∨ c = 11 ∨ c = 12 ∨ c = 13 ∨ c = 14 ∨ c = 15 ∨ c = 16 ∨ c = 17 ∨ c = 18 by omega) with rfl | rfl | rfl | rfl | rfl | rfl | rfl | rfl | rfl | rfl | rfl | rfl | rfl | rfl | rfl | rfl | rfl | rfl | rfl
      · refine fin (("" : String) : Str) ([(("" : String) : Str)]) (by rw [← hL9]; rfl) (rfl) (⟨by simp, by simp, tc (tl0 (by decide +kernel)) t0⟩) (rfl)
      · refine fin (((" " : String) : Str) ++ T) ((("" : String) : Str) :: (hwT j lo ++ ntS d :: sepK ks)) (by rw [← hL9]; rfl) (by rw [TL.join_eq, joinC (by simp), joinF (by simp), joinC sne, ← eN]; simp only [eT, eR, eA, eDd, ll1, ll2, ll3, ll4, ll5, lit_pl, ll0, emptyS_app, app_emptyS, PySem.Str.append_assoc]) (⟨by simp, by have := hw_len j lo; simp only [List.length_cons, List.length_append]; omega, tc (tl0 (by decide +kernel)) (ta (hw_tok hlo) (tc td tS))⟩) (rfl)
      · refine fin (T ++ ((" " : String) : Str)) (hwT j lo ++ ntS d :: (sepK ks ++ [(("" : String) : Str)])) (by rw [← hL9]; rfl) (by rw [TL.join_eq, joinF (by simp), joinC (by simp), joinA sne (by simp), joinS_one, ← eN]; simp only [eT, eR, eA, eDd, ll1, ll2, ll3, ll4, ll5, lit_pl, ll0, emptyS_app, app_emptyS, PySem.Str.append_assoc]) (tokL_of hlo (tc td (ta tS (tc (tl0 (by decide +kernel)) t0))) (by simp) (by simp only [List.length_cons, List.length_append, List.length_nil]; omega)) (read_none (.inl (okN_even (by simp only [List.length_append, List.length_cons, List.length_nil]; omega))))
      · refine fin ((R ++ ((" " : String) : Str)) ++ N) (hwT j lo ++ ntS d :: (("" : String) : Str) :: sepK ks) (by rw [← hL9]; rfl) (by rw [TL.join_eq, joinF (by simp), joinC (by simp), joinC sne, ← eN]; simp only [eT, eR, eA, eDd, ll1, ll2, ll3, ll4, ll5, lit_pl, ll0, emptyS_app, app_emptyS, PySem.Str.append_assoc]) (tokL_of hlo (tc td (tc (tl0 (by decide +kernel)) tS)) (by simp) (by simp only [List.length_cons, List.length_append, List.length_nil]; omega)) (read_none (.inl (okN_even (by simp only [List.length_cons]; omega))))
      · refine fin ((((A ++ (("1" : String) : Str)) ++ D) ++ ((" " : String) : Str)) ++ N) (hwT j lo ++ ((("1" : String) : Str) ++ ntS d) :: sepK ks) (by rw [← hL9]; rfl) (by rw [TL.join_eq, joinF (by simp), joinC sne, ← eN]; simp only [eT, eR, eA, eDd, ll1, ll2, ll3, ll4, ll5, lit_pl, ll0, emptyS_app, app_emptyS, PySem.Str.append_assoc]) (tokL_of hlo (tc (tok_cat (tl0 (by decide +kernel)) td (by rw [dl]; decide)) tS) (by simp) (by simp only [List.length_cons, List.length_append, List.length_nil]; omega)) (read_none (.inr (digB_len (by rw [strLen_append, dl]; decide))))
      · refine fin ((((A ++ (("+" : String) : Str)) ++ D) ++ ((" " : String) : Str)) ++ N) (hwT j lo ++ ((("+" : String) : Str) ++ ntS d) :: sepK ks) (by rw [← hL9]; rfl) (by rw [TL.join_eq, joinF (by simp), joinC sne, ← eN]; simp only [eT, eR, eA, eDd, ll1, ll2, ll3, ll4, ll5, lit_pl, ll0, emptyS_app, app_emptyS, PySem.Str.append_assoc]) (tokL_of hlo (tc (tok_cat (tl0 (by decide +kernel)) td (by rw [dl]; decide)) tS) (by simp) (by simp only [List.length_cons, List.length_append, List.length_nil]; omega)) (read_none (.inr (digB_len (by rw [strLen_append, dl]; decide))))
      · refine fin (A ++ N) (hwT j lo ++ sepK ks) (by rw [← hL9]; rfl) (by rw [TL.join_eq, joinF sne, ← eN]; simp only [eT, eR, eA, eDd, ll1, ll2, ll3, ll4, ll5, lit_pl, ll0, emptyS_app, app_emptyS, PySem.Str.append_assoc]) (tokL_of hlo (tS) (by exact sne) (by omega)) (by rw [es]; exact read_none (.inl (okN_even (by rw [es] at so; simp only [List.length_cons] at so; omega))))
      · refine fin (R) (hwT j lo ++ ntS d :: [(("" : String) : Str)]) (by rw [← hL9]; rfl) (by rw [TL.join_eq, joinF (by simp), joinC (by simp), joinS_one]; simp only [eT, eR, eA, eDd, ll1, ll2, ll3, ll4, ll5, lit_pl, ll0, emptyS_app, app_emptyS, PySem.Str.append_assoc]) (tokL_of hlo (tc td (tc (tl0 (by decide +kernel)) t0)) (by simp) (by simp only [List.length_cons, List.length_append, List.length_nil]; omega)) (read_none (.inl (by decide +kernel)))
      · refine fin (cutS R none (some (-1))) (hwT j lo ++ ntS d :: []) (by rw [← hL9]; rfl) (by rw [hcut1, TL.join_eq, joinF (by simp), joinS_one]; simp only [eT, eR, eA, eDd, ll1, ll2, ll3, ll4, ll5, lit_pl, ll0, emptyS_app, app_emptyS, PySem.Str.append_assoc]) (tokL_of hlo (tc td t0) (by simp) (by simp only [List.length_cons, List.length_append, List.length_nil]; omega)) (read_none (.inl (by decide +kernel)))
      · refine fin (T ++ ((" +" : String) : Str)) (hwT j lo ++ ntS d :: (sepK ks ++ [(("+" : String) : Str)])) (by rw [← hL9]; rfl) (by rw [TL.join_eq, joinF (by simp), joinC (by simp), joinA sne (by simp), joinS_one, ← eN]; simp only [eT, eR, eA, eDd, ll1, ll2, ll3, ll4, ll5, lit_pl, ll0, emptyS_app, app_emptyS, PySem.Str.append_assoc]) (tokL_of hlo (tc td (ta tS (tc (tl0 (by decide +kernel)) t0))) (by simp) (by simp only [List.length_cons, List.length_append, List.length_nil]; omega)) (read_none (.inl (okN_even (by simp only [List.length_append, List.length_cons, List.length_nil]; omega))))
      · refine fin ((R ++ (("+ " : String) : Str)) ++ N) (hwT j lo ++ ntS d :: (("+" : String) : Str) :: sepK ks) (by rw [← hL9]; rfl) (by rw [TL.join_eq, joinF (by simp), joinC (by simp), joinC sne, ← eN]; simp only [eT, eR, eA, eDd, ll1, ll2, ll3, ll4, ll5, lit_pl, ll0, emptyS_app, app_emptyS, PySem.Str.append_assoc]) (tokL_of hlo (tc td (tc (tl0 (by decide +kernel)) tS)) (by simp) (by simp only [List.length_cons, List.length_append, List.length_nil]; omega)) (read_none (.inl (okN_even (by simp only [List.length_cons]; omega))))
      · refine fin (T ++ ((" + " : String) : Str)) (hwT j lo ++ ntS d :: (sepK ks ++ [(("+" : String) : Str), (("" : String) : Str)])) (by rw [← hL9]; rfl) (by rw [TL.join_eq, joinF (by simp), joinC (by simp), joinA sne (by simp), joinC (by simp), joinS_one, ← eN]; simp only [eT, eR, eA, eDd, ll1, ll2, ll3, ll4, ll5, lit_pl, ll0, emptyS_app, app_emptyS, PySem.Str.append_assoc]) (tokL_of hlo (tc td (ta tS (tc (tl0 (by decide +kernel)) (tc (tl0 (by decide +kernel)) t0)))) (by simp) (by simp only [List.length_cons, List.length_append, List.length_nil]; omega)) (read_none (.inl (okN_more hK.lo hK.hi (by decide +kernel))))
      · refine fin (T ++ ((" and more" : String) : Str)) (hwT j lo ++ ntS d :: (sepK ks ++ [(("and" : String) : Str), (("more" : String) : Str)])) (by rw [← hL9]; rfl) (by rw [TL.join_eq, joinF (by simp), joinC (by simp), joinA sne (by simp), joinC (by simp), joinS_one, ← eN]; simp only [eT, eR, eA, eDd, ll1, ll2, ll3, ll4, ll5, lit_pl, ll0, emptyS_app, app_emptyS, PySem.Str.append_assoc]) (tokL_of hlo (tc td (ta tS (tc (tl0 (by decide +kernel)) (tc (tl0 (by decide +kernel)) t0)))) (by simp) (by simp only [List.length_cons, List.length_append, List.length_nil]; omega)) (read_none (.inl (okN_and hK)))
      · refine fin (R ++ Txt.upper N) (hwT j lo ++ ntS d :: sepK (ks.map upT)) (by rw [← hL9]; rfl) (by rw [TL.join_eq, joinF (by simp), joinC (sepK_ne' (by intro e; exact hne (List.map_eq_nil_iff.mp e))), eU, sum_sepX (by intro e; exact hne (List.map_eq_nil_iff.mp e))]; simp only [eT, eR, eA, eDd, ll1, ll2, ll3, ll4, ll5, lit_pl, ll0, emptyS_app, app_emptyS, PySem.Str.append_assoc]) (tokL_of hlo (tc td tU) (by simp) (by have := (sep_odd (ks := ks.map upT) (by rw [List.length_map]; exact hW.lo) (by rw [List.length_map]; exact hW.hi)).2; simp only [List.length_cons]; omega)) (read_none (.inl up_no))
      · refine fin (T ++ (("\n" : String) : Str)) (hwT j lo ++ ntS d :: sepK nl) (by rw [← hL9]; rfl) (by rw [TL.join_eq, joinF (by simp), joinC (sepK_ne' (by intro e; rw [e] at nll; simp at nll)), nle, ← eN]; simp only [eT, eR, eA, eDd, ll1, ll2, ll3, ll4, ll5, lit_pl, ll0, emptyS_app, app_emptyS, PySem.Str.append_assoc]) (tokL_of hlo (tc td tN) (by simp) (by have := (sep_odd nll nlh).2; simp only [List.length_cons]; omega)) (read_none (.inl nl_no))
      · refine fin ((A ++ (("x " : String) : Str)) ++ N) (hwT j lo ++ (("x" : String) : Str) :: sepK ks) (by rw [← hL9]; rfl) (by rw [TL.join_eq, joinF (by simp), joinC sne, ← eN]; simp only [eT, eR, eA, eDd, ll1, ll2, ll3, ll4, ll5, lit_pl, ll0, emptyS_app, app_emptyS, PySem.Str.append_assoc]) (tokL_of hlo (tc (tl0 (by decide +kernel)) tS) (by simp) (by simp only [List.length_cons, List.length_append, List.length_nil]; omega)) (read_none (.inr (by decide +kernel)))
      · refine fin (R ++ (("aaaaaaaaa" : String) : Str)) (hwT j lo ++ ntS d :: [(("aaaaaaaaa" : String) : Str)]) (by rw [← hL9]; rfl) (by rw [TL.join_eq, joinF (by simp), joinC (by simp), joinS_one]; simp only [eT, eR, eA, eDd, ll1, ll2, ll3, ll4, ll5, lit_pl, ll0, emptyS_app, app_emptyS, PySem.Str.append_assoc]) (tokL_of hlo (tc td (tc (tl0 (by decide +kernel)) t0)) (by simp) (by simp only [List.length_cons, List.length_append, List.length_nil]; omega)) (read_none (.inl (by decide +kernel)))
      · refine fin (T ++ ((" + +" : String) : Str)) (hwT j lo ++ ntS d :: (sepK ks ++ [(("+" : String) : Str), (("+" : String) : Str)])) (by rw [← hL9]; rfl) (by rw [TL.join_eq, joinF (by simp), joinC (by simp), joinA sne (by simp), joinC (by simp), joinS_one, ← eN]; simp only [eT, eR, eA, eDd, ll1, ll2, ll3, ll4, ll5, lit_pl, ll0, emptyS_app, app_emptyS, PySem.Str.append_assoc]) (tokL_of hlo (tc td (ta tS (tc (tl0 (by decide +kernel)) (tc (tl0 (by decide +kernel)) t0)))) (by simp) (by simp only [List.length_cons, List.length_append, List.length_nil]; omega)) (read_none (.inl (okN_more hK.lo hK.hi (by decide +kernel))))
      · refine fin (((optT j ++ D) ++ ((" " : String) : Str)) ++ N) (optW j ++ ntS d :: sepK ks) (by rw [← hL9]; rfl) (by rw [TL.join_eq, joinF (by simp), joinC sne, ← eN, (optF j j4).1]; simp only [eT, eR, eA, eDd, ll1, ll2, ll3, ll4, ll5, lit_pl, ll0, emptyS_app, app_emptyS, PySem.Str.append_assoc]) (⟨by simp, by have := (optF j j4).2.2; simp only [List.length_cons, List.length_append]; omega, ta opt_tok (tc td tS)⟩) (opt_none dl)
    exact ⟨_, rfl, _, rfl, q9, _, _, v, rfl, rfl, SqL.of g9, hv, q⟩
end
end Cs

set_option Elab.async false
set_option linter.all false
set_option maxRecDepth 100000
set_option maxHeartbeats 8000000
set_option pp.maxSteps 600
/-! The law of rules not read. -/
namespace Cs
open PySem L2
theorem kindsV_of' {zs : List Str} (h : Kinds zs) : kindsV (zs.map V.str) = true := by
  have h1 := h.lo
  have h2 := h.hi
  unfold kindsV
  rw [List.length_map, decide_eq_true h1, decide_eq_true h2, decide_eq_true (str_inj_nodup.mpr h.nd), Bool.and_true, Bool.and_true, Bool.true_and, List.all_map, List.all_eq_true]
  exact fun z hz => kindB_of (h.kd z hz)
theorem form_tokL {lo hi : Int} {ks : List Str} (hl : Bnd9 lo) (hh : Bnd9 hi) (h : KW ks) (j : Nat) : TokL (hwT j lo ++ ntS (dgI lo hi j) :: sepK ks) := by
  have hd : Bnd9 (dgI lo hi j) := by
    match j with
    | 0 => exact hl
    | 1 => exact hh
    | 2 => exact hh
    | _ + 3 => exact hl
  have h7 := (sep_odd h.lo h.hi).2
  refine tokL_of hl (fun z m => ?_) (by simp) (by simp only [List.length_cons]; omega)
  rcases List.mem_cons.mp m with e | e
  · rw [e]; exact nt_tok hd
  · exact sep_tok (fun z m => word_tok (h.wd z m)) z e
/-- what is told of a form -/
theorem form_ask {lo hi : Int} {ks : List Str} {j : Nat} {H : Hp} {Q : VK} {E : XK} {z : Str} (hl : Bnd9 lo) (hh : Bnd9 hi) (h : KW ks) (hz : (if j = 2 ∧ hi < lo then (("number" : String) : Str) else if kindsV (ks.map V.str) = false then (("kinds" : String) : Str) else (("" : String) : Str)) = z) (q : ∀ H', Same H H' → Q (.str z) H') : spWhatT [.str (formS lo hi ks j)] H Q E :=
  ⟨_, rfl, .inr ⟨_, form_tokL hl hh h j, by rw [form_join (kw_ne h)], fun H' s => by rw [what_form hl hh h, hz]; exact q H' s⟩⟩
theorem forms_at {lo hi : Int} {ks : List Str} {j : Nat} (h : j < 4) : atI [V.str (formS lo hi ks 0), .str (formS lo hi ks 1), .str (formS lo hi ks 2), .str (formS lo hi ks 3)] (j : Int) = some (.str (formS lo hi ks j)) := by
  match j, h with
  | 0, _ => rfl
  | 1, _ => rfl
  | 2, _ => rfl
  | 3, _ => rfl
theorem kv_len {ks : List V} (h : ks.length = 4) : kindsV ks = false := by
  unfold kindsV
  rw [h]
  rfl
theorem kv_nd {ks : List V} (h : ¬ ks.Nodup) : kindsV ks = false := by
  unfold kindsV
  rw [decide_eq_false h, Bool.and_false, Bool.and_false]
theorem kv_in {ks : List V} {v : V} (m : v ∈ ks) (h : kndV v = false) : kindsV ks = false := by
  unfold kindsV
  have e : ks.all kndV = false := Bool.eq_false_iff.mpr fun q => by
    rw [List.all_eq_true.mp q v m] at h
    cases h
  rw [e, Bool.false_and, Bool.and_false]
section
variable {P : Program} {w : World} {K : PySem.W.Frag} {mg : Str → Option Value} {base : Heap}
theorem ok_law {f fS fD fKs fFm fWh fFa fNs : Addr} {fd fdS fdD fdKs fdFm fdWh fdFa fdNs : FuncData} (F : Fun K "law" "law" s_law f fd) (g : Bi mg)
    (FS : Def P w K mg base CX0 1 "_law_source" ["_law_script"] (spSource K) fS fdS) (FD : Def P w K mg base CX0 2 "_law_draw" ["_law_source_here", "_law_size"] spDraw fD fdD) (FKs : Def P w K mg base CX0 4 "_law_kinds" ["_law_source_here", "_law_many"] spKinds fKs fdKs)
    (FFm : Def P w K mg base CX0 1 "_law_forms" ["_law_low", "_law_high", "_law_kinds_here"] spFormsX fFm fdFm) (FWh : Def P w K mg base CX0 10 "_law_what" ["_law_text"] spWhatT fWh fdWh)
    (FFa : Def P w K mg base CX0 1 "_law_faulty" ["_law_choice", "_law_mode", "_law_text", "_law_names"] spFaulty fFa fdFa) (FNs : Def P w K mg base CX0 1 "_law_no_string" ["_law_choice"] spNoStr fNs fdNs) :
    FnOk P w K mg base CX0 11 f fd ["_law_script"] (spLawR K) := by
  obtain ⟨GS, mS, _, bS⟩ := id FS
  obtain ⟨GD, mD, _, bD⟩ := id FD
  obtain ⟨GKs, mKs, _, bKs⟩ := id FKs
  obtain ⟨GFm, mFm, _, bFm⟩ := id FFm
  obtain ⟨GWh, mWh, _, bWh⟩ := id FWh
  obtain ⟨GFa, mFa, _, bFa⟩ := id FFa
  obtain ⟨GNs, mNs, _, bNs⟩ := id FNs
  refine F.ok sc_law (fun vs H Q E h => ?_) (fun cdv A outer s H vs Q E hr h => ?_)
  · obtain ⟨_, _, rfl, _⟩ := h
    rfl
  · obtain ⟨sc, ns, rfl, hS, hlen, k⟩ := h
    have hrS : Room 1 _ := hr.mono (by decide)
    have hrFm : Room 1 _ := hr.mono (by decide)
    have hrFa : Room 1 _ := hr.mono (by decide)
    have hrNs : Room 1 _ := hr.mono (by decide)
    have hrD : Room 2 _ := hr.mono (by decide)
    have hrKs : Room 4 _ := hr.mono (by decide)
    have hrWh : Room 10 _ := hr
    refine ⟨_, (pss_cons (ps_set (i := 1) sc_law.nd rfl (Or.inl rfl) (pe_call GS hrS rfl mS FS.kp bS .nil pass0 (pa_cons (pv 0) pa_nil)))
      (pss_cons (ps_set (i := 2) sc_law.nd rfl (Or.inl rfl) (pe_call GKs hrKs rfl mKs FKs.kp bKs .nil pass0 (pa_cons (pv 1) (pa_cons pe_int pa_nil))))
      (pss_cons (ps_set (i := 3) sc_law.nd rfl (Or.inl rfl) (pe_slice sl_list (pv 2) po_none (po_some (pe_op op_add pe_int (pe_call GD hrD rfl mD FD.kp bD .nil pass0 (pa_cons (pv 1) (pa_cons pe_int pa_nil)))))))
      (pss_cons (ps_set (i := 4) sc_law.nd rfl (Or.inl rfl) (pe_call GD hrD rfl mD FD.kp bD .nil pass0 (pa_cons (pv 1) (pa_cons pe_int pa_nil))))
      (pss_cons (ps_set (i := 5) sc_law.nd rfl (Or.inl rfl) (pe_op op_add (pv 4) (pe_call GD hrD rfl mD FD.kp bD .nil pass0 (pa_cons (pv 1) (pa_cons (pe_op op_sub pe_int (pv 4)) pa_nil)))))
      (pss_cons (ps_set (i := 6) sc_law.nd rfl (Or.inl rfl) (pe_call GD hrD rfl mD FD.kp bD .nil pass0 (pa_cons (pv 1) (pa_cons pe_int pa_nil))))
      (pss_cons (ps_set (i := 7) sc_law.nd rfl (Or.inl rfl) (pe_call GD hrD rfl mD FD.kp bD .nil pass0 (pa_cons (pv 1) (pa_cons pe_int pa_nil))))
      (pss_cons (ps_set (i := 8) sc_law.nd rfl (Or.inl rfl) (pe_ix ix_list (pe_call GFm hrFm rfl mFm FFm.kp bFm .nil pass0 (pa_cons (pv 4) (pa_cons (pv 5) (pa_cons (pv 3) pa_nil)))) (pv 6) (fun _ _ => rfl)))
      (pss_cons (ps_if (PW.pt (pw_or (pt_cmpR op_ne (pe_call GWh hrWh rfl mWh FWh.kp bWh .nil pass0 (pa_cons (pv 8) pa_nil)) pe_str (nomark _)) (pw_or1 (pt_cmpR op_ne (pe_call GWh hrWh rfl mWh FWh.kp bWh .nil pass0 (pa_cons (pe_call GNs hrNs rfl mNs FNs.kp bNs .nil pass0 (pa_cons (pe_call GD hrD rfl mD FD.kp bD .nil pass0 (pa_cons (pv 1) (pa_cons pe_int pa_nil))) pa_nil)) pa_nil)) pe_str (nomark _))))) (pss_one (ps_ret pe_bl)) pss_nil)
      (pss_cons (ps_if (pt_cmpR op_ne (pe_call GWh hrWh rfl mWh FWh.kp bWh .nil pass0 (pa_cons (pe_call GFa hrFa rfl mFa FFa.kp bFa .nil pass0 (pa_cons (pv 7) (pa_cons (pv 6) (pa_cons (pv 8) (pa_cons (pe_join pe_str (pv 3)) pa_nil))))) pa_nil)) pe_str (nomark _)) (pss_one (ps_ret pe_bl)) pss_nil)
      (pss_cons (ps_set (i := 9) sc_law.nd rfl (Or.inl rfl) (pe_ix ix_list (pe_lst (pa_cons (pv 2) (pa_cons (pe_op op_cat (pv 3) (pe_lst (pa_cons (pe_ix ix_list (pv 3) pe_int (fun _ _ => rfl)) pa_nil))) (pa_cons (pe_lst (pa_cons pe_str pa_nil)) (pa_cons (pe_op op_cat (pe_slice sl_list (pv 3) po_none (po_some pe_int)) (pe_lst (pa_cons pe_str pa_nil))) pa_nil))))) (pe_call GD hrD rfl mD FD.kp bD .nil pass0 (pa_cons (pv 1) (pa_cons pe_int pa_nil))) (fun _ _ => rfl)))
      (pss_cons (ps_if (pt_cmpR op_ne (pe_call GWh hrWh rfl mWh FWh.kp bWh .nil pass0 (pa_cons (pe_ix ix_list (pe_call GFm hrFm rfl mFm FFm.kp bFm .nil pass0 (pa_cons (pv 4) (pa_cons (pv 5) (pa_cons (pv 9) pa_nil)))) (pv 6) (fun _ _ => rfl)) pa_nil)) pe_str (nomark _)) (pss_one (ps_ret pe_bl)) pss_nil)
      (C8.pss_cut (ps_if (pt_cmpR op_gt (pv 5) (pv 4) (nomark _)) (pss_cons (ps_set (i := 10) sc_law.nd rfl (Or.inl rfl) (pe_ix ix_list (pe_call GFm hrFm rfl mFm FFm.kp bFm .nil pass0 (pa_cons (pv 5) (pa_cons (pv 4) (pa_cons (pv 9) pa_nil)))) pe_int (fun _ _ => rfl)))
      (pss_cons (ps_if (PW.pt (pw_or (pt_cmpR op_ne (pe_call GWh hrWh rfl mWh FWh.kp bWh .nil pass0 (pa_cons (pv 10) pa_nil)) pe_str (nomark _)) (pw_or1 (pt_cmpR op_ne (pe_call GWh hrWh rfl mWh FWh.kp bWh .nil pass0 (pa_cons (pe_ix ix_list (pe_call GFm hrFm rfl mFm FFm.kp bFm .nil pass0 (pa_cons (pv 5) (pa_cons (pv 4) (pa_cons (pv 3) pa_nil)))) pe_int (fun _ _ => rfl)) pa_nil)) pe_str (nomark _))))) (pss_one (ps_ret pe_bl)) pss_nil)
      (pss_one (ps_if (pt_cmpR op_ne (pe_call GWh hrWh rfl mWh FWh.kp bWh .nil pass0 (pa_cons (pe_op op_add_str (pv 10) pe_str) pa_nil)) pe_str (nomark _)) (pss_one (ps_ret pe_bl)) pss_nil)))) pss_nil)
      (pss_one (ps_ret (pe_cmpR op_eq (pe_call GWh hrWh rfl mWh FWh.kp bWh .nil pass0 (pa_cons (pe_ix ix_list (pe_call GFm hrFm rfl mFm FFm.kp bFm .nil pass0 (pa_cons (pv 5) (pa_cons (pv 5) (pa_cons (pv 3) pa_nil)))) pe_int (fun _ _ => rfl)) pa_nil)) pe_str (nomark _))))))))))))))))), ?_⟩
    refine ⟨_, rfl, sc, ns, rfl, hS, fun p c H1 hp hc s1 S1 => ?_⟩
    refine ⟨_, rfl, p, c, 4, rfl, S1, by decide, fun kl H2 ks hkl hk2 hkn hknd hkk S2 k2 => ?_⟩
    have nkp : kl ≠ p := S1.new_p hkl
    refine ⟨_, rfl, _, rfl, p, c, 3, rfl, S2, by decide, by decide, fun v1 H3 v10 v11 S3 k3 => ?_⟩
    obtain ⟨m, rfl⟩ : ∃ n : Nat, v1 = n := ⟨v1.toNat, by omega⟩
    have hk3 := k3 _ _ hk2 nkp
    refine ⟨_, _, rfl, rfl, _, rfl, kl, _, rfl, SqL.of hk3, fun sl hsl => ?_⟩
    rw [show cutV (ks.map V.str) none (some (1 + (m : Int))) = (ks.take (1 + m)).map V.str by rw [show (1 + (m : Int)) = ((1 + m : Nat) : Int) by omega]; exact cutS_to (1 + m)]
    have hm4 : (ks.take (1 + m)).length = 1 + m := by rw [List.length_take]; omega
    have hK : Kinds (ks.take (1 + m)) := ⟨by omega, by omega, hknd.sublist (List.take_sublist _ _), fun z hz => hkk z (List.mem_of_mem_take hz)⟩
    have nsp : sl ≠ p := S3.new_p hsl
    have u3 : Same H3 (upd H3 sl (.lst ((ks.take (1 + m)).map V.str))) := Same.new hsl
    have hs3 : (upd H3 sl (.lst ((ks.take (1 + m)).map V.str))) sl = some (.lst ((ks.take (1 + m)).map V.str)) := upd_same
    have S4 := S3.same u3
    have hk4 := u3 _ _ hk3
    generalize upd H3 sl (.lst ((ks.take (1 + m)).map V.str)) = H4 at u3 hs3 S4 hk4
    generalize esk : ks.take (1 + m) = sk at hK hs3 hm4
    have hW := hK.kw
    have hKW : KW ks := ⟨by omega, by omega, fun z hz => (hkk z hz).1⟩
    refine ⟨_, rfl, p, c, 10, rfl, S4, by decide, by decide, fun lo H5 lo0 lo1 S5 k5 => ?_⟩
    refine ⟨_, rfl, _, rfl, _, rfl, _, _, rfl, rfl, p, c, 10 - lo, rfl, S5, by omega, by omega, fun v2 H6 v20 v21 S6 k6 => ⟨_, _, rfl, rfl, ?_⟩⟩
    have hlo : Bnd9 lo := ⟨lo0, by omega⟩
    have hhi : Bnd9 (lo + v2) := ⟨by omega, by omega⟩
    refine ⟨_, rfl, p, c, 4, rfl, S6, by decide, by decide, fun mo H7 mo0 mo1 S7 k7 => ?_⟩
    obtain ⟨j, rfl⟩ : ∃ n : Nat, mo = n := ⟨mo.toNat, by omega⟩
    have j4 : j < 4 := by omega
    refine ⟨_, rfl, p, c, 19, rfl, S7, by decide, by decide, fun ch H8 ch0 ch1 S8 k8 => ?_⟩
    have hs8 := k8 _ _ (k7 _ _ (k6 _ _ (k5 _ _ hs3 nsp) nsp) nsp) nsp
    have hk8 := k8 _ _ (k7 _ _ (k6 _ _ (k5 _ _ hk4 nkp) nkp) nkp) nkp
    generalize ehi : lo + v2 = hi at hhi
    have hle : lo ≤ hi := by omega
    have eo : V.int (lo + v2) = V.int hi := by rw [ehi]
    have kv : kindsV (sk.map V.str) = true := kindsV_of' hK
    have good : ∀ {j : Nat} {lo hi : Int}, lo ≤ hi → (if j = 2 ∧ hi < lo then (("number" : String) : Str) else if kindsV (sk.map V.str) = false then (("kinds" : String) : Str) else (("" : String) : Str)) = "" := fun h => by rw [if_neg (by omega), if_neg (by rw [kv]; decide)]
    refine ⟨_, rfl, _, rfl, _, rfl, lo, hi, sl, sk, by rw [← ehi]; rfl, hlo, hhi, hs8, hW, fun fq H9 hfq s9 hf9 => ?_⟩
    refine ⟨_, rfl, fq, _, _, _, rfl, rfl, SqL.of hf9, forms_at j4, ?_⟩
    refine ⟨_, rfl, nil_it <| form_ask hlo hhi hW (good hle) fun H10 s10 => ⟨rfl, _, rfl, iteF ?_⟩⟩
    have S10 := (S8.same s9).same s10
    refine ⟨_, rfl, p, c, 7, rfl, S10, by decide, by decide, fun v3 H11 v30 v31 S11 k11 => ⟨v3, rfl, v30, v31, fun wv H12 s12 vw nw => ?_⟩⟩
    refine ⟨wv, rfl, .inl ⟨vw, nw, fun H13 s13 => ⟨rfl, _, rfl, iteF ?_⟩⟩⟩
    have S13 := (S11.same s12).same s13
    have hs13 := s13 _ _ (s12 _ _ (k11 _ _ ((s9.trans s10) _ _ hs8) nsp))
    have hk13 := s13 _ _ (s12 _ _ (k11 _ _ ((s9.trans s10) _ _ hk8) nkp))
    have h1 := kw_sum hW
    have h2 := hK.hi
    have e : ((" + " : String) : Str).length = 3 := rfl
    refine ⟨_, rfl, _, rfl, _, rfl, ⟨_, rfl⟩, _, rfl, _, sl, sk, rfl, rfl, .inl (SqL.of hs13), by rw [e]; omega, ?_⟩
    refine ⟨ch, j, lo, hi, sk, rfl, ch0, ch1, j4, hlo, hhi, hK, fun ws H14 s14 hT hN => ?_⟩
    refine ⟨_, rfl, .inr ⟨ws, hT, rfl, fun H15 s15 => ?_⟩⟩
    rw [what_none hN]
    refine ⟨rfl, _, rfl, iteF ?_⟩
    have t15 := s14.trans s15
    have S15 := S13.same t15
    have hs15 := t15 _ _ hs13
    have hk15 := t15 _ _ hk13
    clear S1 S2 S3 S4 S5 S6 S7 S8 S10 S11 S13 k2 k3 k5 k6 k7 k8 k11 hs8 hk8 hs13 hk13 hs3 hk4 hk3 hk2 s1 hp hc hS u3 s9 s10 s12 s13 s14 s15 t15 hf9 hT hN vw nw hsl hkl hfq
    -- the bad kinds
    obtain ⟨s0, sr, es⟩ : ∃ x r, sk = x :: r := by
      cases sk with
      | nil => exact absurd rfl (kw_ne hW)
      | cons x r => exact ⟨x, r, rfl⟩
    refine ⟨_, rfl, _, rfl, _, rfl, sl, _, _, .str s0, rfl, rfl, SqL.of hs15, at_of (z := 0) (j := 0) (by omega) (by rw [es]; rfl), by show 1 ≤ sizeLine; decide, fun b1 hb1 => ?_⟩
    have w1 : Same H15 (upd H15 b1 (.lst [.str s0])) := Same.new hb1
    have d1 : (upd H15 b1 (.lst [.str s0])) b1 = some (.lst [.str s0]) := upd_same
    generalize upd H15 b1 (.lst [.str s0]) = G1 at w1 d1
    refine ⟨sl, b1, _, _, rfl, rfl, w1 _ _ hs15, d1, by rw [List.length_map]; exact Nat.le_trans (show sk.length + 1 ≤ 100 by omega) (by decide), fun q1 hq1 => ?_⟩
    have w2 : Same G1 (upd G1 q1 (.lst (sk.map V.str ++ [.str s0]))) := Same.new hq1
    have d2 : (upd G1 q1 (.lst (sk.map V.str ++ [.str s0]))) q1 = some (.lst ((sk ++ [s0]).map V.str)) := by rw [upd_same, List.map_append]; rfl
    generalize upd G1 q1 (.lst (sk.map V.str ++ [.str s0])) = G2 at w2 d2
    refine ⟨by show 1 ≤ sizeLine; decide, fun q2 hq2 => ?_⟩
    have w3 : Same G2 (upd G2 q2 (.lst [.str "gone"])) := Same.new hq2
    have d3 : (upd G2 q2 (.lst [.str "gone"])) q2 = some (.lst ([(("gone" : String) : Str)].map V.str)) := upd_same
    generalize upd G2 q2 (.lst [.str "gone"]) = G3 at w3 d3
    have w13 := (w1.trans w2).trans w3
    refine ⟨_, rfl, _, rfl, sl, _, rfl, SqL.of (w13 _ _ hs15), fun b2 hb2 => ?_⟩
    rw [show cutV (sk.map V.str) none (some 2) = (sk.take 2).map V.str from cutS_to 2]
    have w4 : Same G3 (upd G3 b2 (.lst ((sk.take 2).map V.str))) := Same.new hb2
    have d4 : (upd G3 b2 (.lst ((sk.take 2).map V.str))) b2 = some (.lst ((sk.take 2).map V.str)) := upd_same
    generalize upd G3 b2 (.lst ((sk.take 2).map V.str)) = G4 at w4 d4
    refine ⟨by show 1 ≤ sizeLine; decide, fun b3 hb3 => ?_⟩
    have w5 : Same G4 (upd G4 b3 (.lst [.str "if"])) := Same.new hb3
    have d5 : (upd G4 b3 (.lst [.str "if"])) b3 = some (.lst [.str "if"]) := upd_same
    generalize upd G4 b3 (.lst [.str "if"]) = G5 at w5 d5
    have lt2 : (sk.take 2).length ≤ 2 := by rw [List.length_take]; omega
    refine ⟨b2, b3, _, _, rfl, rfl, w5 _ _ d4, d5, by rw [List.length_map]; exact Nat.le_trans (show (sk.take 2).length + 1 ≤ 100 by omega) (by decide), fun q3 hq3 => ?_⟩
    have w6 : Same G5 (upd G5 q3 (.lst ((sk.take 2).map V.str ++ [.str "if"]))) := Same.new hq3
    have d6 : (upd G5 q3 (.lst ((sk.take 2).map V.str ++ [.str "if"]))) q3 = some (.lst ((sk.take 2 ++ [(("if" : String) : Str)]).map V.str)) := by rw [upd_same, List.map_append]; rfl
    generalize upd G5 q3 (.lst ((sk.take 2).map V.str ++ [.str "if"])) = G6 at w6 d6
    refine ⟨by show 4 ≤ sizeLine; decide, fun q4 hq4 => ?_⟩
    have w7 : Same G6 (upd G6 q4 (.lst [.ref kl, .ref q1, .ref q2, .ref q3])) := Same.new hq4
    have d7 : (upd G6 q4 (.lst [.ref kl, .ref q1, .ref q2, .ref q3])) q4 = some (.lst [.ref kl, .ref q1, .ref q2, .ref q3]) := upd_same
    generalize upd G6 q4 (.lst [.ref kl, .ref q1, .ref q2, .ref q3]) = G7 at w7 d7
    have w57 := (w5.trans w6).trans w7
    have w17 := (w13.trans w4).trans w57
    have wd7 := ((w3.trans w4).trans w57) _ _ d2
    have we7 := (w4.trans w57) _ _ d3
    have S16 := S15.same w17
    have n1 : q1 ≠ p := (S15.same w1).new_p hq1
    have n2 : q2 ≠ p := (S15.same (w1.trans w2)).new_p hq2
    have n3 : q3 ≠ p := (S15.same ((w13.trans w4).trans w5)).new_p hq3
    have n4 : q4 ≠ p := (S15.same (((w13.trans w4).trans w5).trans w6)).new_p hq4
    refine ⟨_, rfl, p, c, 4, rfl, S16, by decide, by decide, fun v4 H17 v40 v41 S17 k17 => ?_⟩
    obtain ⟨bl, bs, hat, hbl, hbW, hbk⟩ : ∃ (bl : Addr) (bs : List Str), atI [V.ref kl, .ref q1, .ref q2, .ref q3] v4 = some (.ref bl) ∧ H17 bl = some (.lst (bs.map V.str)) ∧ KW bs ∧ kindsV (bs.map V.str) = false := by
      rcases (show v4 = 0 ∨ v4 = 1 ∨ v4 = 2 ∨ v4 = 3 by omega) with rfl | rfl | rfl | rfl
      · exact ⟨kl, ks, rfl, k17 _ _ (w17 _ _ hk15) nkp, hKW, kv_len (by rw [List.length_map]; exact hkn)⟩
      · refine ⟨q1, sk ++ [s0], rfl, k17 _ _ wd7 n1, ⟨by simp, by simp; omega, fun z hz => ?_⟩, kv_nd fun q => ?_⟩
        · rcases List.mem_append.mp hz with q | q
          · exact hW.wd z q
          · rw [List.mem_singleton.mp q]; exact hW.wd s0 (by rw [es]; exact List.mem_cons_self)
        · have q := str_inj_nodup.mp q
          rw [es, List.cons_append] at q
          exact (List.nodup_cons.mp q).1 (List.mem_append_right _ (List.mem_singleton.mpr rfl))
      · exact ⟨q2, [(("gone" : String) : Str)], rfl, k17 _ _ we7 n2, ⟨by simp, by simp, fun z hz => by rw [List.mem_singleton.mp hz]; exact ⟨by decide, by decide, by decide +kernel⟩⟩, by decide +kernel⟩
      · refine ⟨q3, sk.take 2 ++ [(("if" : String) : Str)], rfl, k17 _ _ (w7 _ _ d6) n3, ⟨by simp, by rw [List.length_append]; simp; omega, fun z hz => ?_⟩, kv_in (v := .str "if") (by rw [List.map_append]; exact List.mem_append_right _ (List.mem_singleton.mpr rfl)) (by decide +kernel)⟩
        rcases List.mem_append.mp hz with q | q
        · exact hW.wd z (List.mem_of_mem_take q)
        · rw [List.mem_singleton.mp q]; exact ⟨by decide, by decide, by decide +kernel⟩
    refine ⟨q4, _, _, _, rfl, rfl, SqL.of (k17 _ _ d7 n4), hat, ?_⟩
    have hs17 := k17 _ _ (w17 _ _ hs15) nsp
    clear S15 S16 S17 w1 w2 w3 w4 w5 w6 w7 w13 w57 w17 wd7 we7 d1 d2 d3 d4 d5 d6 d7 k17 hs15 hk15 hat hq1 hq2 hq3 hq4 hb1 hb2 hb3
    have bad : ∀ {j : Nat} {lo hi : Int}, lo ≤ hi → (if j = 2 ∧ hi < lo then (("number" : String) : Str) else if kindsV (bs.map V.str) = false then (("kinds" : String) : Str) else (("" : String) : Str)) = "kinds" := fun h => by rw [if_neg (by omega), if_pos hbk]
    have num : ∀ {lo hi : Int} {ks : List Str}, hi < lo → (if (2 : Nat) = 2 ∧ hi < lo then (("number" : String) : Str) else if kindsV (ks.map V.str) = false then (("kinds" : String) : Str) else (("" : String) : Str)) = "number" := fun h => if_pos ⟨rfl, h⟩
    refine ⟨_, rfl, _, rfl, _, rfl, lo, hi, bl, bs, by rw [← ehi]; rfl, hlo, hhi, hbl, hbW, fun f2 H18 hf2 s18 g18 => ?_⟩
    refine ⟨_, rfl, f2, _, _, _, rfl, rfl, SqL.of g18, forms_at j4, nil_it <| form_ask hlo hhi hbW (bad hle) fun H19 s19 => ⟨rfl, _, rfl, iteF ?_⟩⟩
    have t19 := s18.trans s19
    have hs19 := t19 _ _ hs17
    have hb19 := t19 _ _ hbl
    -- the ends exchanged
    refine ⟨fun σ2 H2 => ∃ (tx : Str) (x10 : Option V), σ2 = [some (.ref sc), some (.ref p), some (.ref kl), some (.ref sl), some (.int lo), some (.int hi), some (.int j), some (.int ch), some (.str tx), some (.ref bl), x10] ∧ Same H19 H2, ?_, ?_⟩
    · refine ⟨_, rfl, _, rfl, _, _, rfl, rfl, _, rfl, ?_⟩
      by_cases cw : lo < hi
      · rw [decide_eq_true (show lo < lo + v2 by omega)]
        refine iteT ⟨_, rfl, _, rfl, _, rfl, hi, lo, bl, bs, by rw [← ehi]; rfl, hhi, hlo, hb19, hbW, fun f3 H20 hf3 s20 g20 => ?_⟩
        refine ⟨f3, _, _, _, rfl, rfl, SqL.of g20, forms_at (j := 2) (by decide), ?_⟩
        refine ⟨_, rfl, nil_it <| form_ask hhi hlo hbW (num cw) fun H21 s21 => ⟨rfl, _, rfl, iteF ?_⟩⟩
        have t21 := s20.trans s21
        refine ⟨_, rfl, _, rfl, _, rfl, hi, lo, sl, sk, by rw [← ehi]; rfl, hhi, hlo, t21 _ _ hs19, hW, fun f4 H22 hf4 s22 g22 => ?_⟩
        refine ⟨f4, _, _, _, rfl, rfl, SqL.of g22, forms_at (j := 2) (by decide), nil_it <| form_ask hhi hlo hW (num cw) fun H23 s23 => ⟨rfl, _, rfl, iteF ?_⟩⟩
        have t23 := (t21.trans s22).trans s23
        have fl := form_len hhi hlo hbW 2
        have e1 : (((" " : String) : Str)).length = 1 := rfl
        have h7 := (sep_odd hbW.lo hbW.hi)
        have sne := sepK_ne' (kw_ne hbW)
        have hT : TokL (hwT 2 hi ++ ntS lo :: (sepK bs ++ [(("" : String) : Str)])) := tokL_of hhi (fun z m => by
          rcases List.mem_cons.mp m with e | e
          · rw [e]; exact nt_tok hlo
          · rcases List.mem_append.mp e with e | e
            · exact sep_tok (fun z m => word_tok (hbW.wd z m)) z e
            · rw [List.mem_singleton.mp e]; exact lit_tok (by decide +kernel)) (by simp) (by simp only [List.length_cons, List.length_append, List.length_nil]; omega)
        have hN : readT (hwT 2 hi ++ ntS lo :: (sepK bs ++ [(("" : String) : Str)])) = none := read_none (.inl (okN_even (by simp only [List.length_append, List.length_cons, List.length_nil]; omega)))
        have eF : formS hi lo bs 2 ++ (((" " : String) : Str)) = Txt.join " " (hwT 2 hi ++ ntS lo :: (sepK bs ++ [(("" : String) : Str)])) := by
          rw [form_flat, TL.join_eq, joinF (by simp), joinC (by simp), joinA sne (by simp), joinS_one, ← sum_sepX (kw_ne hbW)]
          simp only [ll0, app_emptyS, PySem.Str.append_assoc]
          rfl
        refine ⟨_, rfl, _, _, rfl, rfl, Nat.le_trans (show _ ≤ 9000 by rw [e1]; omega) (by decide), nil_it ⟨_, rfl, .inr ⟨_, hT, congrArg V.str eF, fun H24 s24 => ?_⟩⟩⟩
        rw [what_none hN]
        refine ⟨rfl, _, rfl, iteF ?_⟩
        exact ⟨_, _, by rw [← ehi]; rfl, t23.trans s24⟩
      · rw [decide_eq_false (show ¬ lo < lo + v2 by omega)]
        exact iteF ⟨_, _, by rw [← ehi]; rfl, Same.refl _⟩
    rintro σ2 H20 ⟨tx, x10, rfl, s20⟩
    refine ⟨_, rfl, _, rfl, _, rfl, hi, hi, sl, sk, rfl, hhi, hhi, s20 _ _ hs19, hW, fun f5 H21 hf5 s21 g21 => ?_⟩
    refine ⟨f5, _, _, _, rfl, rfl, SqL.of g21, forms_at (j := 2) (by decide), nil_it <| form_ask hhi hhi hW (good (Int.le_refl _)) fun H22 s22 => ⟨rfl, k _⟩⟩
end
end Cs

set_option Elab.async false
set_option linter.all false
set_option maxRecDepth 100000
set_option maxHeartbeats 8000000
namespace Cs
open PySem L2
theorem all_mk {l : PySem.W.OpenLaw} {w : World} {K : PySem.W.Frag} {h : Heap} {mg : Str → Option Value} {fa : Addr} (X : K.In h) (G : h.Ns mainGlobals mg) (hfa : mg "law" = some (.ref fa))
    {f_isint : Addr} {oc_isint kV_isint dc_isint pm_isint cd_isint ct_isint : Value} {od_isint an_isint : Option Addr} {sl_isint : Array (Option Value)}
    {f_isword : Addr} {oc_isword kV_isword dc_isword pm_isword cd_isword ct_isword : Value} {od_isword an_isword : Option Addr} {sl_isword : Array (Option Value)}
    {f_source : Addr} {oc_source kV_source dc_source pm_source cd_source ct_source : Value} {od_source an_source : Option Addr} {sl_source : Array (Option Value)}
    {f_mixed : Addr} {oc_mixed kV_mixed dc_mixed pm_mixed cd_mixed ct_mixed : Value} {od_mixed an_mixed : Option Addr} {sl_mixed : Array (Option Value)}
    {f_draw : Addr} {oc_draw kV_draw dc_draw pm_draw cd_draw ct_draw : Value} {od_draw an_draw : Option Addr} {sl_draw : Array (Option Value)}
    {f_distinct : Addr} {oc_distinct kV_distinct dc_distinct pm_distinct cd_distinct ct_distinct : Value} {od_distinct an_distinct : Option Addr} {sl_distinct : Array (Option Value)}
    {f_iskind : Addr} {oc_iskind kV_iskind dc_iskind pm_iskind cd_iskind ct_iskind : Value} {od_iskind an_iskind : Option Addr} {sl_iskind : Array (Option Value)}
    {f_isbound : Addr} {oc_isbound kV_isbound dc_isbound pm_isbound cd_isbound ct_isbound : Value} {od_isbound an_isbound : Option Addr} {sl_isbound : Array (Option Value)}
    {f_kind : Addr} {oc_kind kV_kind dc_kind pm_kind cd_kind ct_kind : Value} {od_kind an_kind : Option Addr} {sl_kind : Array (Option Value)}
    {f_kinds : Addr} {oc_kinds kV_kinds dc_kinds pm_kinds cd_kinds ct_kinds : Value} {od_kinds an_kinds : Option Addr} {sl_kinds : Array (Option Value)}
    {f_forms : Addr} {oc_forms kV_forms dc_forms pm_forms cd_forms ct_forms : Value} {od_forms an_forms : Option Addr} {sl_forms : Array (Option Value)}
    {f_isdigit : Addr} {oc_isdigit kV_isdigit dc_isdigit pm_isdigit cd_isdigit ct_isdigit : Value} {od_isdigit an_isdigit : Option Addr} {sl_isdigit : Array (Option Value)}
    {f_rkinds : Addr} {oc_rkinds kV_rkinds dc_rkinds pm_rkinds cd_rkinds ct_rkinds : Value} {od_rkinds an_rkinds : Option Addr} {sl_rkinds : Array (Option Value)}
    {f_rrule : Addr} {oc_rrule kV_rrule dc_rrule pm_rrule cd_rrule ct_rrule : Value} {od_rrule an_rrule : Option Addr} {sl_rrule : Array (Option Value)}
    {f_what : Addr} {oc_what kV_what dc_what pm_what cd_what ct_what : Value} {od_what an_what : Option Addr} {sl_what : Array (Option Value)}
    {f_faulty : Addr} {oc_faulty kV_faulty dc_faulty pm_faulty cd_faulty ct_faulty : Value} {od_faulty an_faulty : Option Addr} {sl_faulty : Array (Option Value)}
    {f_nostr : Addr} {oc_nostr kV_nostr dc_nostr pm_nostr cd_nostr ct_nostr : Value} {od_nostr an_nostr : Option Addr} {sl_nostr : Array (Option Value)}
    {f_law : Addr} {oc_law kV_law dc_law pm_law cd_law ct_law : Value} {od_law an_law : Option Addr} {sl_law : Array (Option Value)}
    {B ce_B : Addr} {nm_B qn_B : Str} {N_B : Addr} {bs_B : List Value} {sn_B : List Str} {sub_B : List Value} {ab_B : Bool} {col_B : Option Bool} {dd_B : Option Addr} {m0_B m1_B m2_B m3_B m5_B : Option Value}
    {f_xr : Addr} {oc_xr kV_xr dc_xr pm_xr cd_xr ct_xr : Value} {od_xr an_xr : Option Addr} {sl_xr : Array (Option Value)}
    {tk_LET : PySem.Tok}
    {cl_R f_iR : Addr} {oc_iR kV_iR dc_iR pm_iR cd_iR ct_iR : Value} {od_iR an_iR : Option Addr} {sl_iR : Array (Option Value)}
    {cl_al f_ial cd_ial cc_ial : Addr} {oc_ial kV_ial dc_ial pm_ial ct_ial cl1_ial cl2_ial : Value} {od_ial an_ial dd1_ial dd2_ial : Option Addr} {sl_ial sl1_ial sl2_ial : Array (Option Value)} {vs_ial : Array Value} {file_ial : Str} {tk_ial : PySem.Tok}
    {cl_am f_iam cd_iam cc_iam : Addr} {oc_iam kV_iam dc_iam pm_iam ct_iam cl1_iam cl2_iam : Value} {od_iam an_iam dd1_iam dd2_iam : Option Addr} {sl_iam sl1_iam sl2_iam : Array (Option Value)} {vs_iam : Array Value} {file_iam : Str} {tk_iam : PySem.Tok}
    {cl_bt f_ibt cd_ibt cc_ibt : Addr} {oc_ibt kV_ibt dc_ibt pm_ibt ct_ibt cl1_ibt cl2_ibt : Value} {od_ibt an_ibt dd1_ibt dd2_ibt : Option Addr} {sl_ibt sl1_ibt sl2_ibt : Array (Option Value)} {vs_ibt : Array Value} {file_ibt : Str} {tk_ibt : PySem.Tok}
    {cl_ex f_iex cd_iex cc_iex : Addr} {oc_iex kV_iex dc_iex pm_iex ct_iex cl1_iex cl2_iex : Value} {od_iex an_iex dd1_iex dd2_iex : Option Addr} {sl_iex sl1_iex sl2_iex : Array (Option Value)} {vs_iex : Array Value} {file_iex : Str} {tk_iex : PySem.Tok}
    {rR : Addr} {dd_RES : Option Addr} {n_RES : Nat} {sl_RES : Array (Option Value)} {tr0 tr1 tr2 tr3 tr4 tr5 tr6 tr7 tr8 tr9 tr10 tr11 tr12 tr13 tr14 tr15 : PySem.Tok}
    {ce : Addr}
    {tk_DIG : PySem.Tok}
    (a_isint : PySem.W.nsIn K mainGlobals "is_integer" = some (some (.ref f_isint)))
    (l_isint : K.lookup f_isint = some ⟨oc_isint, od_isint, .func (PySem.W.fnOf "is_integer" "is_integer" (defArgs s_is_integer) (defBody s_is_integer) (defScope s_is_integer) .none kV_isint dc_isint pm_isint an_isint cd_isint ct_isint), sl_isint⟩)
    (c_isint : PySem.W.codeIn K cd_isint "is_integer" = true)
    (k_isint : PySem.W.keepIn K (.ref f_isint) = true)
    (a_isword : PySem.W.nsIn K mainGlobals "is_word" = some (some (.ref f_isword)))
    (l_isword : K.lookup f_isword = some ⟨oc_isword, od_isword, .func (PySem.W.fnOf "is_word" "is_word" (defArgs s_is_word) (defBody s_is_word) (defScope s_is_word) .none kV_isword dc_isword pm_isword an_isword cd_isword ct_isword), sl_isword⟩)
    (c_isword : PySem.W.codeIn K cd_isword "is_word" = true)
    (k_isword : PySem.W.keepIn K (.ref f_isword) = true)
    (a_source : PySem.W.nsIn K mainGlobals "_law_source" = some (some (.ref f_source)))
    (l_source : K.lookup f_source = some ⟨oc_source, od_source, .func (PySem.W.fnOf "_law_source" "_law_source" (defArgs s_l_source) (defBody s_l_source) (defScope s_l_source) .none kV_source dc_source pm_source an_source cd_source ct_source), sl_source⟩)
    (c_source : PySem.W.codeIn K cd_source "_law_source" = true)
    (k_source : PySem.W.keepIn K (.ref f_source) = true)
    (a_mixed : PySem.W.nsIn K mainGlobals "_law_mixed" = some (some (.ref f_mixed)))
    (l_mixed : K.lookup f_mixed = some ⟨oc_mixed, od_mixed, .func (PySem.W.fnOf "_law_mixed" "_law_mixed" (defArgs s_l_mixed) (defBody s_l_mixed) (defScope s_l_mixed) .none kV_mixed dc_mixed pm_mixed an_mixed cd_mixed ct_mixed), sl_mixed⟩)
    (c_mixed : PySem.W.codeIn K cd_mixed "_law_mixed" = true)
    (k_mixed : PySem.W.keepIn K (.ref f_mixed) = true)
    (a_draw : PySem.W.nsIn K mainGlobals "_law_draw" = some (some (.ref f_draw)))
    (l_draw : K.lookup f_draw = some ⟨oc_draw, od_draw, .func (PySem.W.fnOf "_law_draw" "_law_draw" (defArgs s_l_draw) (defBody s_l_draw) (defScope s_l_draw) .none kV_draw dc_draw pm_draw an_draw cd_draw ct_draw), sl_draw⟩)
    (c_draw : PySem.W.codeIn K cd_draw "_law_draw" = true)
    (k_draw : PySem.W.keepIn K (.ref f_draw) = true)
    (a_distinct : PySem.W.nsIn K mainGlobals "distinct" = some (some (.ref f_distinct)))
    (l_distinct : K.lookup f_distinct = some ⟨oc_distinct, od_distinct, .func (PySem.W.fnOf "distinct" "distinct" (defArgs s_distinct) (defBody s_distinct) (defScope s_distinct) .none kV_distinct dc_distinct pm_distinct an_distinct cd_distinct ct_distinct), sl_distinct⟩)
    (c_distinct : PySem.W.codeIn K cd_distinct "distinct" = true)
    (k_distinct : PySem.W.keepIn K (.ref f_distinct) = true)
    (a_iskind : PySem.W.nsIn K mainGlobals "is_kind" = some (some (.ref f_iskind)))
    (l_iskind : K.lookup f_iskind = some ⟨oc_iskind, od_iskind, .func (PySem.W.fnOf "is_kind" "is_kind" (defArgs s_is_kind) (defBody s_is_kind) (defScope s_is_kind) .none kV_iskind dc_iskind pm_iskind an_iskind cd_iskind ct_iskind), sl_iskind⟩)
    (c_iskind : PySem.W.codeIn K cd_iskind "is_kind" = true)
    (k_iskind : PySem.W.keepIn K (.ref f_iskind) = true)
    (a_isbound : PySem.W.nsIn K mainGlobals "is_bound" = some (some (.ref f_isbound)))
    (l_isbound : K.lookup f_isbound = some ⟨oc_isbound, od_isbound, .func (PySem.W.fnOf "is_bound" "is_bound" (defArgs s_is_bound) (defBody s_is_bound) (defScope s_is_bound) .none kV_isbound dc_isbound pm_isbound an_isbound cd_isbound ct_isbound), sl_isbound⟩)
    (c_isbound : PySem.W.codeIn K cd_isbound "is_bound" = true)
    (k_isbound : PySem.W.keepIn K (.ref f_isbound) = true)
    (a_kind : PySem.W.nsIn K mainGlobals "_law_kind" = some (some (.ref f_kind)))
    (l_kind : K.lookup f_kind = some ⟨oc_kind, od_kind, .func (PySem.W.fnOf "_law_kind" "_law_kind" (defArgs s_l_kind) (defBody s_l_kind) (defScope s_l_kind) .none kV_kind dc_kind pm_kind an_kind cd_kind ct_kind), sl_kind⟩)
    (c_kind : PySem.W.codeIn K cd_kind "_law_kind" = true)
    (k_kind : PySem.W.keepIn K (.ref f_kind) = true)
    (a_kinds : PySem.W.nsIn K mainGlobals "_law_kinds" = some (some (.ref f_kinds)))
    (l_kinds : K.lookup f_kinds = some ⟨oc_kinds, od_kinds, .func (PySem.W.fnOf "_law_kinds" "_law_kinds" (defArgs s_l_kinds) (defBody s_l_kinds) (defScope s_l_kinds) .none kV_kinds dc_kinds pm_kinds an_kinds cd_kinds ct_kinds), sl_kinds⟩)
    (c_kinds : PySem.W.codeIn K cd_kinds "_law_kinds" = true)
    (k_kinds : PySem.W.keepIn K (.ref f_kinds) = true)
    (a_forms : PySem.W.nsIn K mainGlobals "_law_forms" = some (some (.ref f_forms)))
    (l_forms : K.lookup f_forms = some ⟨oc_forms, od_forms, .func (PySem.W.fnOf "_law_forms" "_law_forms" (defArgs s_l_forms) (defBody s_l_forms) (defScope s_l_forms) .none kV_forms dc_forms pm_forms an_forms cd_forms ct_forms), sl_forms⟩)
    (c_forms : PySem.W.codeIn K cd_forms "_law_forms" = true)
    (k_forms : PySem.W.keepIn K (.ref f_forms) = true)
    (a_isdigit : PySem.W.nsIn K mainGlobals "is_digit" = some (some (.ref f_isdigit)))
    (l_isdigit : K.lookup f_isdigit = some ⟨oc_isdigit, od_isdigit, .func (PySem.W.fnOf "is_digit" "is_digit" (defArgs s_is_digit) (defBody s_is_digit) (defScope s_is_digit) .none kV_isdigit dc_isdigit pm_isdigit an_isdigit cd_isdigit ct_isdigit), sl_isdigit⟩)
    (c_isdigit : PySem.W.codeIn K cd_isdigit "is_digit" = true)
    (k_isdigit : PySem.W.keepIn K (.ref f_isdigit) = true)
    (a_rkinds : PySem.W.nsIn K mainGlobals "read_kinds" = some (some (.ref f_rkinds)))
    (l_rkinds : K.lookup f_rkinds = some ⟨oc_rkinds, od_rkinds, .func (PySem.W.fnOf "read_kinds" "read_kinds" (defArgs s_read_kinds) (defBody s_read_kinds) (defScope s_read_kinds) .none kV_rkinds dc_rkinds pm_rkinds an_rkinds cd_rkinds ct_rkinds), sl_rkinds⟩)
    (c_rkinds : PySem.W.codeIn K cd_rkinds "read_kinds" = true)
    (k_rkinds : PySem.W.keepIn K (.ref f_rkinds) = true)
    (a_rrule : PySem.W.nsIn K mainGlobals "read_rule" = some (some (.ref f_rrule)))
    (l_rrule : K.lookup f_rrule = some ⟨oc_rrule, od_rrule, .func (PySem.W.fnOf "read_rule" "read_rule" (defArgs s_read_rule) (defBody s_read_rule) (defScope s_read_rule) .none kV_rrule dc_rrule pm_rrule an_rrule cd_rrule ct_rrule), sl_rrule⟩)
    (c_rrule : PySem.W.codeIn K cd_rrule "read_rule" = true)
    (k_rrule : PySem.W.keepIn K (.ref f_rrule) = true)
    (a_what : PySem.W.nsIn K mainGlobals "_law_what" = some (some (.ref f_what)))
    (l_what : K.lookup f_what = some ⟨oc_what, od_what, .func (PySem.W.fnOf "_law_what" "_law_what" (defArgs s_l_what) (defBody s_l_what) (defScope s_l_what) .none kV_what dc_what pm_what an_what cd_what ct_what), sl_what⟩)
    (c_what : PySem.W.codeIn K cd_what "_law_what" = true)
    (k_what : PySem.W.keepIn K (.ref f_what) = true)
    (a_faulty : PySem.W.nsIn K mainGlobals "_law_faulty" = some (some (.ref f_faulty)))
    (l_faulty : K.lookup f_faulty = some ⟨oc_faulty, od_faulty, .func (PySem.W.fnOf "_law_faulty" "_law_faulty" (defArgs s_l_faulty) (defBody s_l_faulty) (defScope s_l_faulty) .none kV_faulty dc_faulty pm_faulty an_faulty cd_faulty ct_faulty), sl_faulty⟩)
    (c_faulty : PySem.W.codeIn K cd_faulty "_law_faulty" = true)
    (k_faulty : PySem.W.keepIn K (.ref f_faulty) = true)
    (a_nostr : PySem.W.nsIn K mainGlobals "_law_no_string" = some (some (.ref f_nostr)))
    (l_nostr : K.lookup f_nostr = some ⟨oc_nostr, od_nostr, .func (PySem.W.fnOf "_law_no_string" "_law_no_string" (defArgs s_l_no_string) (defBody s_l_no_string) (defScope s_l_no_string) .none kV_nostr dc_nostr pm_nostr an_nostr cd_nostr ct_nostr), sl_nostr⟩)
    (c_nostr : PySem.W.codeIn K cd_nostr "_law_no_string" = true)
    (k_nostr : PySem.W.keepIn K (.ref f_nostr) = true)
    (a_law : PySem.W.nsIn K mainGlobals "law" = some (some (.ref f_law)))
    (l_law : K.lookup f_law = some ⟨oc_law, od_law, .func (PySem.W.fnOf "law" "law" (defArgs s_law) (defBody s_law) (defScope s_law) .none kV_law dc_law pm_law an_law cd_law ct_law), sl_law⟩)
    (c_law : PySem.W.codeIn K cd_law "law" = true)
    (k_law : PySem.W.keepIn K (.ref f_law) = true)
    (a_B : PySem.W.nsIn K mainGlobals "BadRule" = some (some (.ref B)))
    (x_B : K.lookup B = some (excClassObj nm_B qn_B B N_B bs_B [.ref ce_B, .type "ValueError", .type "Exception", .type "BaseException", .type "object"] true sn_B sub_B ab_B col_B dd_B m0_B m1_B m2_B m3_B m5_B "ValueError.__new__"))
    (sa_B : PySem.W.findIn K (.ref B) "__setattr__" = some (some (.builtin "object.__setattr__")))
    (ec_B : PySem.W.subIn K (.ref B) (.type "BaseException") = some true)
    (ty_B : PySem.W.typeIn K (.ref B) = some (.type "type"))
    (kc_B : PySem.W.keepIn K (.ref B) = true)
    (is_B : PySem.W.isClsIn K B = true)
    (ss_B : PySem.W.subIn K (.ref B) (.ref B) = some true)
    (nf_B : PySem.W.findIn K (.ref B) "what" = some none)
    (a_xr : PySem.W.findIn K (.ref B) "__init__" = some (some (.ref f_xr)))
    (t_xr : PySem.W.typeIn K (.ref f_xr) = some (.type "function"))
    (l_xr : K.lookup f_xr = some ⟨oc_xr, od_xr, .func (PySem.W.fnOf "__init__" "BadRule.__init__" (defArgs s_BadRule_init) (defBody s_BadRule_init) (defScope s_BadRule_init) .none kV_xr dc_xr pm_xr an_xr cd_xr ct_xr), sl_xr⟩)
    (c_xr : PySem.W.codeIn K cd_xr "BadRule.__init__" = true)
    (k_xr : PySem.W.keepIn K (.ref f_xr) = true)
    (a_LET : PySem.W.nsIn K mainGlobals "LETTERS" = some (some (.str LET tk_LET)))
    (a_R : PySem.W.nsIn K mainGlobals "Rule" = some (some (.ref cl_R)))
    (is_R : PySem.W.isClsIn K cl_R = true)
    (ty_R : PySem.W.typeIn K (.ref cl_R) = some (.type "type"))
    (ai_R : PySem.W.findIn K (.ref cl_R) "__init__" = some (some (.ref f_iR)))
    (l_iR : K.lookup f_iR = some ⟨oc_iR, od_iR, .func (PySem.W.fnOf "__init__" "Rule.__init__" (defArgs s_Rule_init) (defBody s_Rule_init) (defScope s_Rule_init) .none kV_iR dc_iR pm_iR an_iR cd_iR ct_iR), sl_iR⟩)
    (c_iR : PySem.W.codeIn K cd_iR "Rule.__init__" = true)
    (tf_R : PySem.W.typeIn K (.ref f_iR) = some (.type "function"))
    (fi_R : PySem.W.fnIn K f_iR = true)
    (a_al : PySem.W.nsIn K mainGlobals "AtLeast" = some (some (.ref cl_al)))
    (pg_al : PySem.W.plainGet K cl_al Str.empty = true)
    (hd_al : PySem.W.hasDictIn K cl_al = true)
    (po_al : PySem.W.plainOver K cl_al = true)
    (sa_al : PySem.W.findIn K (.ref cl_al) "__setattr__" = some (some (.builtin "object.__setattr__")))
    (mk_al : PySem.W.makesIn K cl_al = true)
    (kc_al : PySem.W.keepIn K (.ref cl_al) = true)
    (nk_al : PySem.W.findIn K (.ref cl_al) "kinds" = some none)
    (nl_al : PySem.W.findIn K (.ref cl_al) "least" = some none)
    (nm_al : PySem.W.findIn K (.ref cl_al) "most" = some none)
    (ca_al : PySem.W.findIn K (.ref cl_al) "__class__" = some (some (.builtin "object.__class__")))
    (cm_al : PySem.W.mroIn K cl_al (.type "object") = some true)
    (is_al : PySem.W.isClsIn K cl_al = true)
    (ty_al : PySem.W.typeIn K (.ref cl_al) = some (.type "type"))
    (ai_al : PySem.W.findIn K (.ref cl_al) "__init__" = some (some (.ref f_ial)))
    (if_al : PySem.W.isFn K (.ref f_ial) = true)
    (l_ial : K.lookup f_ial = some ⟨oc_ial, od_ial, .func (PySem.W.ksFn "__init__" "AtLeast.__init__" (defArgs s_AtLeast_init) (defBody s_AtLeast_init) (defScope s_AtLeast_init) .none kV_ial dc_ial pm_ial an_ial (.ref cd_ial) ct_ial cc_ial), sl_ial⟩)
    (c_ial : PySem.W.codeIn K (.ref cd_ial) "AtLeast.__init__" = true)
    (e_ial : K.lookup cc_ial = some ⟨cl1_ial, dd1_ial, .cell (some (.ref cl_al)), sl1_ial⟩)
    (o_ial : K.lookup cd_ial = some ⟨cl2_ial, dd2_ial, .fields vs_ial, sl2_ial⟩)
    (v_ial : vs_ial[2]? = some (.str file_ial tk_ial))
    (p_ial : ((l.prog.main.file : Str) == file_ial) = true)
    (tf_al : PySem.W.typeIn K (.ref f_ial) = some (.type "function"))
    (fi_al : PySem.W.fnIn K f_ial = true)
    (a_am : PySem.W.nsIn K mainGlobals "AtMost" = some (some (.ref cl_am)))
    (pg_am : PySem.W.plainGet K cl_am Str.empty = true)
    (hd_am : PySem.W.hasDictIn K cl_am = true)
    (po_am : PySem.W.plainOver K cl_am = true)
    (sa_am : PySem.W.findIn K (.ref cl_am) "__setattr__" = some (some (.builtin "object.__setattr__")))
    (mk_am : PySem.W.makesIn K cl_am = true)
    (kc_am : PySem.W.keepIn K (.ref cl_am) = true)
    (nk_am : PySem.W.findIn K (.ref cl_am) "kinds" = some none)
    (nl_am : PySem.W.findIn K (.ref cl_am) "least" = some none)
    (nm_am : PySem.W.findIn K (.ref cl_am) "most" = some none)
    (ca_am : PySem.W.findIn K (.ref cl_am) "__class__" = some (some (.builtin "object.__class__")))
    (cm_am : PySem.W.mroIn K cl_am (.type "object") = some true)
    (is_am : PySem.W.isClsIn K cl_am = true)
    (ty_am : PySem.W.typeIn K (.ref cl_am) = some (.type "type"))
    (ai_am : PySem.W.findIn K (.ref cl_am) "__init__" = some (some (.ref f_iam)))
    (if_am : PySem.W.isFn K (.ref f_iam) = true)
    (l_iam : K.lookup f_iam = some ⟨oc_iam, od_iam, .func (PySem.W.ksFn "__init__" "AtMost.__init__" (defArgs s_AtMost_init) (defBody s_AtMost_init) (defScope s_AtMost_init) .none kV_iam dc_iam pm_iam an_iam (.ref cd_iam) ct_iam cc_iam), sl_iam⟩)
    (c_iam : PySem.W.codeIn K (.ref cd_iam) "AtMost.__init__" = true)
    (e_iam : K.lookup cc_iam = some ⟨cl1_iam, dd1_iam, .cell (some (.ref cl_am)), sl1_iam⟩)
    (o_iam : K.lookup cd_iam = some ⟨cl2_iam, dd2_iam, .fields vs_iam, sl2_iam⟩)
    (v_iam : vs_iam[2]? = some (.str file_iam tk_iam))
    (p_iam : ((l.prog.main.file : Str) == file_iam) = true)
    (tf_am : PySem.W.typeIn K (.ref f_iam) = some (.type "function"))
    (fi_am : PySem.W.fnIn K f_iam = true)
    (a_bt : PySem.W.nsIn K mainGlobals "Between" = some (some (.ref cl_bt)))
    (pg_bt : PySem.W.plainGet K cl_bt Str.empty = true)
    (hd_bt : PySem.W.hasDictIn K cl_bt = true)
    (po_bt : PySem.W.plainOver K cl_bt = true)
    (sa_bt : PySem.W.findIn K (.ref cl_bt) "__setattr__" = some (some (.builtin "object.__setattr__")))
    (mk_bt : PySem.W.makesIn K cl_bt = true)
    (kc_bt : PySem.W.keepIn K (.ref cl_bt) = true)
    (nk_bt : PySem.W.findIn K (.ref cl_bt) "kinds" = some none)
    (nl_bt : PySem.W.findIn K (.ref cl_bt) "least" = some none)
    (nm_bt : PySem.W.findIn K (.ref cl_bt) "most" = some none)
    (ca_bt : PySem.W.findIn K (.ref cl_bt) "__class__" = some (some (.builtin "object.__class__")))
    (cm_bt : PySem.W.mroIn K cl_bt (.type "object") = some true)
    (is_bt : PySem.W.isClsIn K cl_bt = true)
    (ty_bt : PySem.W.typeIn K (.ref cl_bt) = some (.type "type"))
    (ai_bt : PySem.W.findIn K (.ref cl_bt) "__init__" = some (some (.ref f_ibt)))
    (if_bt : PySem.W.isFn K (.ref f_ibt) = true)
    (l_ibt : K.lookup f_ibt = some ⟨oc_ibt, od_ibt, .func (PySem.W.ksFn "__init__" "Between.__init__" (defArgs s_Between_init) (defBody s_Between_init) (defScope s_Between_init) .none kV_ibt dc_ibt pm_ibt an_ibt (.ref cd_ibt) ct_ibt cc_ibt), sl_ibt⟩)
    (c_ibt : PySem.W.codeIn K (.ref cd_ibt) "Between.__init__" = true)
    (e_ibt : K.lookup cc_ibt = some ⟨cl1_ibt, dd1_ibt, .cell (some (.ref cl_bt)), sl1_ibt⟩)
    (o_ibt : K.lookup cd_ibt = some ⟨cl2_ibt, dd2_ibt, .fields vs_ibt, sl2_ibt⟩)
    (v_ibt : vs_ibt[2]? = some (.str file_ibt tk_ibt))
    (p_ibt : ((l.prog.main.file : Str) == file_ibt) = true)
    (tf_bt : PySem.W.typeIn K (.ref f_ibt) = some (.type "function"))
    (fi_bt : PySem.W.fnIn K f_ibt = true)
    (a_ex : PySem.W.nsIn K mainGlobals "Exactly" = some (some (.ref cl_ex)))
    (pg_ex : PySem.W.plainGet K cl_ex Str.empty = true)
    (hd_ex : PySem.W.hasDictIn K cl_ex = true)
    (po_ex : PySem.W.plainOver K cl_ex = true)
    (sa_ex : PySem.W.findIn K (.ref cl_ex) "__setattr__" = some (some (.builtin "object.__setattr__")))
    (mk_ex : PySem.W.makesIn K cl_ex = true)
    (kc_ex : PySem.W.keepIn K (.ref cl_ex) = true)
    (nk_ex : PySem.W.findIn K (.ref cl_ex) "kinds" = some none)
    (nl_ex : PySem.W.findIn K (.ref cl_ex) "least" = some none)
    (nm_ex : PySem.W.findIn K (.ref cl_ex) "most" = some none)
    (ca_ex : PySem.W.findIn K (.ref cl_ex) "__class__" = some (some (.builtin "object.__class__")))
    (cm_ex : PySem.W.mroIn K cl_ex (.type "object") = some true)
    (is_ex : PySem.W.isClsIn K cl_ex = true)
    (ty_ex : PySem.W.typeIn K (.ref cl_ex) = some (.type "type"))
    (ai_ex : PySem.W.findIn K (.ref cl_ex) "__init__" = some (some (.ref f_iex)))
    (if_ex : PySem.W.isFn K (.ref f_iex) = true)
    (l_iex : K.lookup f_iex = some ⟨oc_iex, od_iex, .func (PySem.W.ksFn "__init__" "Exactly.__init__" (defArgs s_Exactly_init) (defBody s_Exactly_init) (defScope s_Exactly_init) .none kV_iex dc_iex pm_iex an_iex (.ref cd_iex) ct_iex cc_iex), sl_iex⟩)
    (c_iex : PySem.W.codeIn K (.ref cd_iex) "Exactly.__init__" = true)
    (e_iex : K.lookup cc_iex = some ⟨cl1_iex, dd1_iex, .cell (some (.ref cl_ex)), sl1_iex⟩)
    (o_iex : K.lookup cd_iex = some ⟨cl2_iex, dd2_iex, .fields vs_iex, sl2_iex⟩)
    (v_iex : vs_iex[2]? = some (.str file_iex tk_iex))
    (p_iex : ((l.prog.main.file : Str) == file_iex) = true)
    (tf_ex : PySem.W.typeIn K (.ref f_iex) = some (.type "function"))
    (fi_ex : PySem.W.fnIn K f_iex = true)
    (ch_R : PySem.W.specialIn K (.builtin "object.__class__") "__get__" = some (some (.builtin "getset_descriptor.__get__")))
    (ct_R : PySem.W.takesIn K (.builtin "object.__class__") = some true)
    (sR_al : PySem.W.subIn K (.ref cl_al) (.ref cl_R) = some true)
    (s_al_am : PySem.W.subIn K (.ref cl_al) (.ref cl_am) = some false)
    (ne_al_am : cl_al ≠ cl_am)
    (s_al_bt : PySem.W.subIn K (.ref cl_al) (.ref cl_bt) = some false)
    (ne_al_bt : cl_al ≠ cl_bt)
    (s_al_ex : PySem.W.subIn K (.ref cl_al) (.ref cl_ex) = some false)
    (ne_al_ex : cl_al ≠ cl_ex)
    (sR_am : PySem.W.subIn K (.ref cl_am) (.ref cl_R) = some true)
    (s_am_al : PySem.W.subIn K (.ref cl_am) (.ref cl_al) = some false)
    (ne_am_al : cl_am ≠ cl_al)
    (s_am_bt : PySem.W.subIn K (.ref cl_am) (.ref cl_bt) = some false)
    (ne_am_bt : cl_am ≠ cl_bt)
    (s_am_ex : PySem.W.subIn K (.ref cl_am) (.ref cl_ex) = some false)
    (ne_am_ex : cl_am ≠ cl_ex)
    (sR_bt : PySem.W.subIn K (.ref cl_bt) (.ref cl_R) = some true)
    (s_bt_al : PySem.W.subIn K (.ref cl_bt) (.ref cl_al) = some true)
    (ne_bt_al : cl_bt ≠ cl_al)
    (s_bt_am : PySem.W.subIn K (.ref cl_bt) (.ref cl_am) = some true)
    (ne_bt_am : cl_bt ≠ cl_am)
    (s_bt_ex : PySem.W.subIn K (.ref cl_bt) (.ref cl_ex) = some false)
    (ne_bt_ex : cl_bt ≠ cl_ex)
    (sR_ex : PySem.W.subIn K (.ref cl_ex) (.ref cl_R) = some true)
    (s_ex_al : PySem.W.subIn K (.ref cl_ex) (.ref cl_al) = some true)
    (ne_ex_al : cl_ex ≠ cl_al)
    (s_ex_am : PySem.W.subIn K (.ref cl_ex) (.ref cl_am) = some true)
    (ne_ex_am : cl_ex ≠ cl_am)
    (s_ex_bt : PySem.W.subIn K (.ref cl_ex) (.ref cl_bt) = some true)
    (ne_ex_bt : cl_ex ≠ cl_bt)
    (m_al_al : PySem.W.mroIn K cl_al (.ref cl_al) = some true)
    (u_al_al : PySem.W.ks_superIn K cl_al cl_al "__init__" = some (some (.ref f_iR)))
    (m_am_am : PySem.W.mroIn K cl_am (.ref cl_am) = some true)
    (u_am_am : PySem.W.ks_superIn K cl_am cl_am "__init__" = some (some (.ref f_iR)))
    (m_bt_bt : PySem.W.mroIn K cl_bt (.ref cl_bt) = some true)
    (u_bt_bt : PySem.W.ks_superIn K cl_bt cl_bt "__init__" = some (some (.ref f_ial)))
    (m_bt_al : PySem.W.mroIn K cl_bt (.ref cl_al) = some true)
    (u_bt_al : PySem.W.ks_superIn K cl_bt cl_al "__init__" = some (some (.ref f_iam)))
    (m_bt_am : PySem.W.mroIn K cl_bt (.ref cl_am) = some true)
    (u_bt_am : PySem.W.ks_superIn K cl_bt cl_am "__init__" = some (some (.ref f_iR)))
    (m_ex_ex : PySem.W.mroIn K cl_ex (.ref cl_ex) = some true)
    (u_ex_ex : PySem.W.ks_superIn K cl_ex cl_ex "__init__" = some (some (.ref f_ibt)))
    (m_ex_bt : PySem.W.mroIn K cl_ex (.ref cl_bt) = some true)
    (u_ex_bt : PySem.W.ks_superIn K cl_ex cl_bt "__init__" = some (some (.ref f_ial)))
    (m_ex_al : PySem.W.mroIn K cl_ex (.ref cl_al) = some true)
    (u_ex_al : PySem.W.ks_superIn K cl_ex cl_al "__init__" = some (some (.ref f_iam)))
    (m_ex_am : PySem.W.mroIn K cl_ex (.ref cl_am) = some true)
    (u_ex_am : PySem.W.ks_superIn K cl_ex cl_am "__init__" = some (some (.ref f_iR)))
    (sg_top : (l.prog.main.scope.names.lookup ("super" : Str)).isSome = false)
    (z_super : PySem.W.nsIn K mainGlobals "super" = some none)
    (sg_opq : PySem.W.nsIn K cStatics "thirdparty.any" = some none)
    (a_RES : PySem.W.nsIn K mainGlobals "RESERVED" = some (some (.ref rR)))
    (t_RES : K.lookup rR = some ⟨.type "tuple", dd_RES, .seq #[.str ("hold" : Str) tr0, .str ("look" : Str) tr1, .str ("do" : Str) tr2, .str ("row" : Str) tr3, .str ("one" : Str) tr4, .str ("all" : Str) tr5, .str ("new" : Str) tr6, .str ("give" : Str) tr7, .str ("take" : Str) tr8, .str ("join" : Str) tr9, .str ("other" : Str) tr10, .str ("if" : Str) tr11, .str ("and" : Str) tr12, .str ("or" : Str) tr13, .str ("then" : Str) tr14, .str ("gone" : Str) tr15] n_RES, sl_RES⟩)
    (hg_B : PySem.W.findIn K (.ref B) "__getattribute__" = some (some (.builtin "BaseException.__getattribute__")))
    (hk_B : PySem.W.findIn K (.ref B) "__getattr__" = some none)
    (hd_B : PySem.W.hasDictIn K B = true)
    (ca_B : PySem.W.findIn K (.ref B) "__class__" = some (some (.builtin "object.__class__")))
    (cm_B : PySem.W.mroIn K B (.type "object") = some true)
    (a_ce : PySem.W.nsIn K mainGlobals "CountsheldError" = some (some (.ref ce)))
    (is_ce : PySem.W.isClsIn K ce = true)
    (ty_ce : PySem.W.typeIn K (.ref ce) = some (.type "type"))
    (s_B_ce : PySem.W.subIn K (.ref B) (.ref ce) = some true)
    (a_DIG : PySem.W.nsIn K mainGlobals "DIGITS" = some (some (.str DIG tk_DIG)))
    (z_len : PySem.W.nsIn K mainGlobals "len" = some none)
    (z_int : PySem.W.nsIn K mainGlobals "int" = some none)
    (z_abs : PySem.W.nsIn K mainGlobals "abs" = some none)
    (z_list : PySem.W.nsIn K mainGlobals "list" = some none)
    (z_range : PySem.W.nsIn K mainGlobals "range" = some none)
    (z_sorted : PySem.W.nsIn K mainGlobals "sorted" = some none)
    (z_str : PySem.W.nsIn K mainGlobals "str" = some none)
    (z_isinstance : PySem.W.nsIn K mainGlobals "isinstance" = some none)
    (z_sum : PySem.W.nsIn K mainGlobals "sum" = some none)
    (z_tuple : PySem.W.nsIn K mainGlobals "tuple" = some none)
    (z_dict : PySem.W.nsIn K mainGlobals "dict" = some none)
    (z_all : PySem.W.nsIn K mainGlobals "all" = some none)
    (z_bool : PySem.W.nsIn K mainGlobals "bool" = some none)
    (z_enumerate : PySem.W.nsIn K mainGlobals "enumerate" = some none)
    : ∃ fd : FuncData, (∀ (s : Shared) (v : Value), BindsTo s fd ⟨[v], []⟩ [("_law_script", v)]) ∧ ∀ base : Heap, K.In base → base.Ns mainGlobals mg → FnOk l.prog w K mg base CX0 11 fa fd ["_law_script"] (spLawR K) := by
  have e := hfa.symm.trans (PySem.W.mg_of X G a_law)
  cases e
  have g : Bi mg := ⟨PySem.W.mg_none_of X G z_len, PySem.W.mg_none_of X G z_int, PySem.W.mg_none_of X G z_abs, PySem.W.mg_none_of X G z_list, PySem.W.mg_none_of X G z_range, PySem.W.mg_none_of X G z_sorted, PySem.W.mg_none_of X G z_str, PySem.W.mg_none_of X G z_isinstance, PySem.W.mg_none_of X G z_sum, PySem.W.mg_none_of X G z_tuple, PySem.W.mg_none_of X G z_dict, PySem.W.mg_none_of X G z_all, PySem.W.mg_none_of X G z_bool, PySem.W.mg_none_of X G z_enumerate⟩
  have F_isint := fun_mk (st := s_is_integer) l_isint c_isint k_isint
  have b_isint := F_isint.binds (ps := ["thing"]) fun _ _ _ _ _ _ us hl => match us, hl with | [_], _ => rfl
  have F_isword := fun_mk (st := s_is_word) l_isword c_isword k_isword
  have b_isword := F_isword.binds (ps := ["thing"]) fun _ _ _ _ _ _ us hl => match us, hl with | [_], _ => rfl
  have F_source := fun_mk (st := s_l_source) l_source c_source k_source
  have b_source := F_source.binds (ps := ["_law_script"]) fun _ _ _ _ _ _ us hl => match us, hl with | [_], _ => rfl
  have F_mixed := fun_mk (st := s_l_mixed) l_mixed c_mixed k_mixed
  have b_mixed := F_mixed.binds (ps := ["_law_cell", "_law_count"]) fun _ _ _ _ _ _ us hl => match us, hl with | [_, _], _ => rfl
  have F_draw := fun_mk (st := s_l_draw) l_draw c_draw k_draw
  have b_draw := F_draw.binds (ps := ["_law_source_here", "_law_size"]) fun _ _ _ _ _ _ us hl => match us, hl with | [_, _], _ => rfl
  have F_distinct := fun_mk (st := s_distinct) l_distinct c_distinct k_distinct
  have b_distinct := F_distinct.binds (ps := ["words"]) fun _ _ _ _ _ _ us hl => match us, hl with | [_], _ => rfl
  have F_iskind := fun_mk (st := s_is_kind) l_iskind c_iskind k_iskind
  have b_iskind := F_iskind.binds (ps := ["thing"]) fun _ _ _ _ _ _ us hl => match us, hl with | [_], _ => rfl
  have F_isbound := fun_mk (st := s_is_bound) l_isbound c_isbound k_isbound
  have b_isbound := F_isbound.binds (ps := ["thing"]) fun _ _ _ _ _ _ us hl => match us, hl with | [_], _ => rfl
  have F_kind := fun_mk (st := s_l_kind) l_kind c_kind k_kind
  have b_kind := F_kind.binds (ps := ["_law_source_here", "_law_taken"]) fun _ _ _ _ _ _ us hl => match us, hl with | [_, _], _ => rfl
  have F_kinds := fun_mk (st := s_l_kinds) l_kinds c_kinds k_kinds
  have b_kinds := F_kinds.binds (ps := ["_law_source_here", "_law_many"]) fun _ _ _ _ _ _ us hl => match us, hl with | [_, _], _ => rfl
  have F_forms := fun_mk (st := s_l_forms) l_forms c_forms k_forms
  have b_forms := F_forms.binds (ps := ["_law_low", "_law_high", "_law_kinds_here"]) fun _ _ _ _ _ _ us hl => match us, hl with | [_, _, _], _ => rfl
  have F_isdigit := fun_mk (st := s_is_digit) l_isdigit c_isdigit k_isdigit
  have b_isdigit := F_isdigit.binds (ps := ["text"]) fun _ _ _ _ _ _ us hl => match us, hl with | [_], _ => rfl
  have F_rkinds := fun_mk (st := s_read_kinds) l_rkinds c_rkinds k_rkinds
  have b_rkinds := F_rkinds.binds (ps := ["names"]) fun _ _ _ _ _ _ us hl => match us, hl with | [_], _ => rfl
  have F_rrule := fun_mk (st := s_read_rule) l_rrule c_rrule k_rrule
  have b_rrule := F_rrule.binds (ps := ["text"]) fun _ _ _ _ _ _ us hl => match us, hl with | [_], _ => rfl
  have F_what := fun_mk (st := s_l_what) l_what c_what k_what
  have b_what := F_what.binds (ps := ["_law_text"]) fun _ _ _ _ _ _ us hl => match us, hl with | [_], _ => rfl
  have F_faulty := fun_mk (st := s_l_faulty) l_faulty c_faulty k_faulty
  have b_faulty := F_faulty.binds (ps := ["_law_choice", "_law_mode", "_law_text", "_law_names"]) fun _ _ _ _ _ _ us hl => match us, hl with | [_, _, _, _], _ => rfl
  have F_nostr := fun_mk (st := s_l_no_string) l_nostr c_nostr k_nostr
  have b_nostr := F_nostr.binds (ps := ["_law_choice"]) fun _ _ _ _ _ _ us hl => match us, hl with | [_], _ => rfl
  have F_law := fun_mk (st := s_law) l_law c_law k_law
  have b_law := F_law.binds (ps := ["_law_script"]) fun _ _ _ _ _ _ us hl => match us, hl with | [_], _ => rfl
  have F_xr := fun_mk (st := s_BadRule_init) l_xr c_xr k_xr
  have b_xr := F_xr.binds (ps := ["self", "what"]) fun _ _ _ _ _ _ us hl => match us, hl with | [_, _], _ => rfl
  refine ⟨PySem.W.fnOf "law" "law" (defArgs s_law) (defBody s_law) (defScope s_law) .none kV_law dc_law pm_law an_law cd_law ct_law, fun s v => .of_eq rfl, fun base _ _ => ?_⟩
  have M := fun {x : Str} {v : Value} (a : PySem.W.nsIn K mainGlobals x = some (some v)) => PySem.W.mg_of X G a
  have FII : Def l.prog w K mg base CX0 1 "is_integer" ["thing"] (spIsInteger K) f_isint _ := ⟨ok_is_integer F_isint g, M a_isint, k_isint, b_isint⟩
  have FIW : Def l.prog w K mg base CX0 1 "is_word" ["thing"] (spIsWord K) f_isword _ := ⟨ok_is_word F_isword g (M a_LET), M a_isword, k_isword, b_isword⟩
  have FSO : Def l.prog w K mg base CX0 1 "_law_source" ["_law_script"] (spSource K) f_source _ := ⟨ok_source F_source g, M a_source, k_source, b_source⟩
  have FDR : Def l.prog w K mg base CX0 2 "_law_draw" ["_law_source_here", "_law_size"] spDraw f_draw _ := ⟨ok_draw F_draw g F_mixed (M a_mixed) b_mixed, M a_draw, k_draw, b_draw⟩
  have hRES : ResAt K rR := fun H => .inr ⟨_, _, _, t_RES, rfl, rfl, by show 16 ≤ sizeLine; decide, .cons ⟨tr0, rfl⟩ (.cons ⟨tr1, rfl⟩ (.cons ⟨tr2, rfl⟩ (.cons ⟨tr3, rfl⟩ (.cons ⟨tr4, rfl⟩ (.cons ⟨tr5, rfl⟩ (.cons ⟨tr6, rfl⟩ (.cons ⟨tr7, rfl⟩ (.cons ⟨tr8, rfl⟩ (.cons ⟨tr9, rfl⟩ (.cons ⟨tr10, rfl⟩ (.cons ⟨tr11, rfl⟩ (.cons ⟨tr12, rfl⟩ (.cons ⟨tr13, rfl⟩ (.cons ⟨tr14, rfl⟩ (.cons ⟨tr15, rfl⟩ (.nil))))))))))))))))⟩
  have FIK : Def l.prog w K mg base CX0 2 "is_kind" ["thing"] (spIsKind K) f_iskind _ := ⟨ok_is_kind F_iskind g FIW (M a_RES) hRES, M a_iskind, k_iskind, b_iskind⟩
  have FIB : Def l.prog w K mg base CX0 2 "is_bound" ["thing"] (spIsBound K) f_isbound _ := ⟨ok_is_bound F_isbound g FII, M a_isbound, k_isbound, b_isbound⟩
  have FDT : Def l.prog w K mg base CX0 1 "distinct" ["words"] (spDistinctT K) f_distinct _ := ⟨ok_distinctT F_distinct g, M a_distinct, k_distinct, b_distinct⟩
  have SG : SupG l.prog K mg := ⟨sg_top, PySem.W.mg_none_of X G z_super, sg_opq⟩
  have clal : Cls K cl_al := ⟨pg_al, hd_al, po_al, sa_al⟩
  have rcal : RC K cl_al := ⟨clal, nk_al, nl_al, nm_al⟩
  have fsal : FunS K "__init__" "AtLeast.__init__" s_AtLeast_init f_ial cd_ial cc_ial cl_al _ _ _ _ _ := ⟨⟨_, _, _, l_ial⟩, c_ial, ⟨_, _, _, e_ial⟩⟩
  have sdal : SupD l.prog K cd_ial cl_al := ⟨⟨_, _, _, _, _, _, o_ial, v_ial, p_ial⟩, is_al⟩
  have rual := ok_rule (P := l.prog) (w := w) (mg := mg) (base := base) (C := cl_al) g rcal FIK FDT l_iR c_iR
  have clam : Cls K cl_am := ⟨pg_am, hd_am, po_am, sa_am⟩
  have rcam : RC K cl_am := ⟨clam, nk_am, nl_am, nm_am⟩
  have fsam : FunS K "__init__" "AtMost.__init__" s_AtMost_init f_iam cd_iam cc_iam cl_am _ _ _ _ _ := ⟨⟨_, _, _, l_iam⟩, c_iam, ⟨_, _, _, e_iam⟩⟩
  have sdam : SupD l.prog K cd_iam cl_am := ⟨⟨_, _, _, _, _, _, o_iam, v_iam, p_iam⟩, is_am⟩
  have ruam := ok_rule (P := l.prog) (w := w) (mg := mg) (base := base) (C := cl_am) g rcam FIK FDT l_iR c_iR
  have clbt : Cls K cl_bt := ⟨pg_bt, hd_bt, po_bt, sa_bt⟩
  have rcbt : RC K cl_bt := ⟨clbt, nk_bt, nl_bt, nm_bt⟩
  have fsbt : FunS K "__init__" "Between.__init__" s_Between_init f_ibt cd_ibt cc_ibt cl_bt _ _ _ _ _ := ⟨⟨_, _, _, l_ibt⟩, c_ibt, ⟨_, _, _, e_ibt⟩⟩
  have sdbt : SupD l.prog K cd_ibt cl_bt := ⟨⟨_, _, _, _, _, _, o_ibt, v_ibt, p_ibt⟩, is_bt⟩
  have rubt := ok_rule (P := l.prog) (w := w) (mg := mg) (base := base) (C := cl_bt) g rcbt FIK FDT l_iR c_iR
  have clex : Cls K cl_ex := ⟨pg_ex, hd_ex, po_ex, sa_ex⟩
  have rcex : RC K cl_ex := ⟨clex, nk_ex, nl_ex, nm_ex⟩
  have fsex : FunS K "__init__" "Exactly.__init__" s_Exactly_init f_iex cd_iex cc_iex cl_ex _ _ _ _ _ := ⟨⟨_, _, _, l_iex⟩, c_iex, ⟨_, _, _, e_iex⟩⟩
  have sdex : SupD l.prog K cd_iex cl_ex := ⟨⟨_, _, _, _, _, _, o_iex, v_iex, p_iex⟩, is_ex⟩
  have ruex := ok_rule (P := l.prog) (w := w) (mg := mg) (base := base) (C := cl_ex) g rcex FIK FDT l_iR c_iR
  have NAL := ok_atleast1 g rcal FIB fsal SG sdal ⟨m_al_al, u_al_al, tf_R, fi_R⟩ rual
  have NAM := ok_atmost g rcam FIB fsam SG sdam ⟨m_am_am, u_am_am, tf_R, fi_R⟩ ruam
  have Nbt1 := ok_atmost g rcbt FIB fsam SG sdam ⟨m_bt_am, u_bt_am, tf_R, fi_R⟩ rubt
  have Nbt2 := ok_atleast2 g rcbt FIB fsal SG sdal ⟨m_bt_al, u_bt_al, tf_am, fi_am⟩ Nbt1
  have Nbt3 := ok_between g rcbt FIB fsbt SG sdbt ⟨m_bt_bt, u_bt_bt, tf_al, fi_al⟩ Nbt2
  have Nex1 := ok_atmost g rcex FIB fsam SG sdam ⟨m_ex_am, u_ex_am, tf_R, fi_R⟩ ruex
  have Nex2 := ok_atleast2 g rcex FIB fsal SG sdal ⟨m_ex_al, u_ex_al, tf_am, fi_am⟩ Nex1
  have Nex3 := ok_between g rcex FIB fsbt SG sdbt ⟨m_ex_bt, u_ex_bt, tf_al, fi_al⟩ Nex2
  have Nex4 := ok_exactly g fsex SG sdex ⟨m_ex_ex, u_ex_ex, tf_bt, fi_bt⟩ Nex3
  have WO : RWo K mg ⟨cl_R, cl_al, cl_am, cl_bt, cl_ex⟩ := ⟨M a_R, M a_al, M a_am, M a_bt, M a_ex, fun c => by cases c <;> assumption, fun c => by cases c; exact ⟨clal, ca_al, ch_R, ct_R, cm_al⟩; exact ⟨clam, ca_am, ch_R, ct_R, cm_am⟩; exact ⟨clbt, ca_bt, ch_R, ct_R, cm_bt⟩; exact ⟨clex, ca_ex, ch_R, ct_R, cm_ex⟩, fun c => by cases c; exact kitR_yes is_R ty_R sR_al; exact kitR_yes is_R ty_R sR_am; exact kitR_yes is_R ty_R sR_bt; exact kitR_yes is_R ty_R sR_ex, fun c d => by cases c <;> cases d; exact kitR_self; exact kitR_no is_am ty_am s_al_am ne_al_am; exact kitR_no is_bt ty_bt s_al_bt ne_al_bt; exact kitR_no is_ex ty_ex s_al_ex ne_al_ex; exact kitR_no is_al ty_al s_am_al ne_am_al; exact kitR_self; exact kitR_no is_bt ty_bt s_am_bt ne_am_bt; exact kitR_no is_ex ty_ex s_am_ex ne_am_ex; exact kitR_yes is_al ty_al s_bt_al; exact kitR_yes is_am ty_am s_bt_am; exact kitR_self; exact kitR_no is_ex ty_ex s_bt_ex ne_bt_ex; exact kitR_yes is_al ty_al s_ex_al; exact kitR_yes is_am ty_am s_ex_am; exact kitR_yes is_bt ty_bt s_ex_bt; exact kitR_self⟩
  have WM : RMk l.prog w K mg base ⟨cl_R, cl_al, cl_am, cl_bt, cl_ex⟩ := ⟨WO, ⟨_, ⟨mk_al, ai_al, if_al, kc_al⟩, FnR.up (FnR.less NAL (by decide)) (by decide)⟩, ⟨_, ⟨mk_am, ai_am, if_am, kc_am⟩, FnR.up (FnR.less NAM (by decide)) (by decide)⟩, ⟨_, ⟨mk_bt, ai_bt, if_bt, kc_bt⟩, FnR.up Nbt3 (by decide)⟩, ⟨_, ⟨mk_ex, ai_ex, if_ex, kc_ex⟩, Nex4⟩⟩
  have OB : OexC K B := ⟨⟨_, _, _, _, _, _, _, _, _, _, _, _, _, _, _, x_B, rfl⟩, sa_B, ec_B, ty_B, kc_B⟩
  have XB : XDef l.prog w K mg base "BadRule" B f_xr "what" ["self", "what"] _ := ⟨OB, a_xr, t_xr, ok_xrule F_xr OB nf_B, b_xr, M a_B, exm_self ec_B is_B ty_B ss_B⟩
  have EC_B : ExcC K B := ⟨hg_B, hk_B, ec_B, hd_B, ca_B, ch_R, ct_R, cm_B⟩
  have XF_B : XfC K B := ⟨hg_B, hk_B, ec_B, hd_B⟩
  have rxal := ok_ruleX (P := l.prog) (w := w) (mg := mg) (base := base) (C := cl_al) g rcal FIK FDT XB l_iR c_iR
  have rxam := ok_ruleX (P := l.prog) (w := w) (mg := mg) (base := base) (C := cl_am) g rcam FIK FDT XB l_iR c_iR
  have rxbt := ok_ruleX (P := l.prog) (w := w) (mg := mg) (base := base) (C := cl_bt) g rcbt FIK FDT XB l_iR c_iR
  have rxex := ok_ruleX (P := l.prog) (w := w) (mg := mg) (base := base) (C := cl_ex) g rcex FIK FDT XB l_iR c_iR
  have XAL := ok_atleast1X g rcal FIB XB fsal SG sdal ⟨m_al_al, u_al_al, tf_R, fi_R⟩ rxal
  have XAM := ok_atmostX g rcam FIB XB fsam SG sdam ⟨m_am_am, u_am_am, tf_R, fi_R⟩ rxam
  have Xbt1 := ok_atmostX g rcbt FIB XB fsam SG sdam ⟨m_bt_am, u_bt_am, tf_R, fi_R⟩ rxbt
  have Xbt2 := ok_atleast2X g rcbt FIB XB fsal SG sdal ⟨m_bt_al, u_bt_al, tf_am, fi_am⟩ Xbt1
  have Xbt3 := ok_betweenX g rcbt FIB XB fsbt SG sdbt ⟨m_bt_bt, u_bt_bt, tf_al, fi_al⟩ Xbt2
  have Xex1 := ok_atmostX g rcex FIB XB fsam SG sdam ⟨m_ex_am, u_ex_am, tf_R, fi_R⟩ rxex
  have Xex2 := ok_atleast2X g rcex FIB XB fsal SG sdal ⟨m_ex_al, u_ex_al, tf_am, fi_am⟩ Xex1
  have Xex3 := ok_betweenX g rcex FIB XB fsbt SG sdbt ⟨m_ex_bt, u_ex_bt, tf_al, fi_al⟩ Xex2
  have Xex4 := ok_exactlyX g rcex fsex SG sdex ⟨m_ex_ex, u_ex_ex, tf_bt, fi_bt⟩ Xex3
  have WX : RMx l.prog w K mg base ⟨cl_R, cl_al, cl_am, cl_bt, cl_ex⟩ B := ⟨WO, ⟨_, ⟨mk_al, ai_al, if_al, kc_al⟩, FnR.up (FnR.lessX XAL (by decide)) (by decide)⟩, ⟨_, ⟨mk_am, ai_am, if_am, kc_am⟩, FnR.up (FnR.lessX XAM (by decide)) (by decide)⟩, ⟨_, ⟨mk_bt, ai_bt, if_bt, kc_bt⟩, FnR.up Xbt3 (by decide)⟩, ⟨_, ⟨mk_ex, ai_ex, if_ex, kc_ex⟩, Xex4⟩⟩
  have FKI : Def l.prog w K mg base CX0 3 "_law_kind" ["_law_source_here", "_law_taken"] spKind f_kind _ := ⟨ok_kind F_kind g FDR, M a_kind, k_kind, b_kind⟩
  have FKS : Def l.prog w K mg base CX0 4 "_law_kinds" ["_law_source_here", "_law_many"] spKinds f_kinds _ := ⟨ok_kinds F_kinds g FKI, M a_kinds, k_kinds, b_kinds⟩
  have FFM : Def l.prog w K mg base CX0 1 "_law_forms" ["_law_low", "_law_high", "_law_kinds_here"] spFormsX f_forms _ := ⟨ok_formsX F_forms g, M a_forms, k_forms, b_forms⟩
  have FDG : Def l.prog w K mg base CX0 1 "is_digit" ["text"] spIsDigitX f_isdigit _ := ⟨ok_is_digitX F_isdigit g (M a_DIG), M a_isdigit, k_isdigit, b_isdigit⟩
  have FRK : Def l.prog w K mg base CX0 2 "read_kinds" ["names"] spReadKindsX f_rkinds _ := ⟨ok_read_kindsX F_rkinds g FIW, M a_rkinds, k_rkinds, b_rkinds⟩
  have FRR : Def l.prog w K mg base (L2.CX l.prog w) 9 "read_rule" ["text"] (spReadX B) f_rrule _ := ⟨ok_readX F_rrule g WX XB FDG FRK, M a_rrule, k_rrule, b_rrule⟩
  have FWH : Def l.prog w K mg base CX0 10 "_law_what" ["_law_text"] spWhatT f_what _ := ⟨ok_whatT F_what g FRR XB EC_B XF_B nf_B (M a_ce) (kitR_yes is_ce ty_ce s_B_ce), M a_what, k_what, b_what⟩
  have FFA : Def l.prog w K mg base CX0 1 "_law_faulty" ["_law_choice", "_law_mode", "_law_text", "_law_names"] spFaulty f_faulty _ := ⟨ok_faulty F_faulty g, M a_faulty, k_faulty, b_faulty⟩
  have FNS : Def l.prog w K mg base CX0 1 "_law_no_string" ["_law_choice"] spNoStr f_nostr _ := ⟨ok_noStr F_nostr g, M a_nostr, k_nostr, b_nostr⟩
  exact ok_law F_law g FSO FDR FKS FFM FWH FFA FNS
theorem walk {l : PySem.W.OpenLaw} {q : Program} {loose : List Str} {XP : (Str → Option Value) → Heap → Prop} {YP : World → Heap → Prop} {d : DefRec} {K : Params → PySem.W.Frag} (hn : l.most = some 63) (hdf : d.params.defaults = [])
    (hY : ∀ (w : World) (h : Heap), YP w h → (K w.params).In h)
    (F : ∀ (w : World) (mg : Str → Option Value) (fa : Addr) (h : Heap), (K w.params).In h → h.Ns mainGlobals mg → mg d.name = some (.ref fa) →
      ∃ fd : FuncData, (∀ (s : Shared) (u : Value), BindsTo s fd ⟨[u], []⟩ [("_law_script", u)]) ∧ ∀ base : Heap, (K w.params).In base → base.Ns mainGlobals mg → FnOk l.prog w (K w.params) mg base CX0 11 fa fd ["_law_script"] (spLawR (K w.params))) :
    PySem.W.WalkO q loose XP YP l.row.toRowW d [] (fun f vs => PySem.call f vs) :=
  L2.walk_of (n := 63) (k := 11) (x := "_law_script") (CX := fun _ => CX0) (sp := fun w => spLawR (K w.params)) hn (by decide) hdf ⟨rfl, by decide, by decide⟩ hY F (fun _ _ a ns hl _ hS => ⟨a, ns, rfl, hS, hl, fun _ => rfl⟩) fun _ _ _ _ _ z => z
end Cs
open PySem PySem.W PyProof.Rows
set_option maxRecDepth 100000 in
set_option maxHeartbeats 0 in
theorem PySem.Challenge.cw_countsheld_k17_rules_not_read_holds : PySem.Challenge.rw_countsheld_k17_rules_not_read.Holds := by
  w_on; o_law; k_head; (case hw => w_witness2)
  k_fill
  refine Cs.walk (l := PySem.Challenge.rw_countsheld_k17_rules_not_read) rfl rfl (fun w h Y => PySem.W.kIn_of Y) ?F
  case F =>
    intro w mg fa h KX G hmg
    refine' Cs.all_mk KX G hmg ?a_isint ?l_isint ?c_isint ?k_isint ?a_isword ?l_isword ?c_isword ?k_isword ?a_source ?l_source ?c_source ?k_source ?a_mixed ?l_mixed ?c_mixed ?k_mixed ?a_draw ?l_draw ?c_draw ?k_draw ?a_distinct ?l_distinct ?c_distinct ?k_distinct ?a_iskind ?l_iskind ?c_iskind ?k_iskind ?a_isbound ?l_isbound ?c_isbound ?k_isbound ?a_kind ?l_kind ?c_kind ?k_kind ?a_kinds ?l_kinds ?c_kinds ?k_kinds ?a_forms ?l_forms ?c_forms ?k_forms ?a_isdigit ?l_isdigit ?c_isdigit ?k_isdigit ?a_rkinds ?l_rkinds ?c_rkinds ?k_rkinds ?a_rrule ?l_rrule ?c_rrule ?k_rrule ?a_what ?l_what ?c_what ?k_what ?a_faulty ?l_faulty ?c_faulty ?k_faulty ?a_nostr ?l_nostr ?c_nostr ?k_nostr ?a_law ?l_law ?c_law ?k_law ?a_B ?x_B ?sa_B ?ec_B ?ty_B ?kc_B ?is_B ?ss_B ?nf_B ?a_xr ?t_xr ?l_xr ?c_xr ?k_xr ?a_LET ?a_R ?is_R ?ty_R ?ai_R ?l_iR ?c_iR ?tf_R ?fi_R ?a_al ?pg_al ?hd_al ?po_al ?sa_al ?mk_al ?kc_al ?nk_al ?nl_al ?nm_al ?ca_al ?cm_al ?is_al ?ty_al ?ai_al ?if_al ?l_ial ?c_ial ?e_ial ?o_ial ?v_ial ?p_ial ?tf_al ?fi_al ?a_am ?pg_am ?hd_am ?po_am ?sa_am ?mk_am ?kc_am ?nk_am ?nl_am ?nm_am ?ca_am ?cm_am ?is_am ?ty_am ?ai_am ?if_am ?l_iam ?c_iam ?e_iam ?o_iam ?v_iam ?p_iam ?tf_am ?fi_am ?a_bt ?pg_bt ?hd_bt ?po_bt ?sa_bt ?mk_bt ?kc_bt ?nk_bt ?nl_bt ?nm_bt ?ca_bt ?cm_bt ?is_bt ?ty_bt ?ai_bt ?if_bt ?l_ibt ?c_ibt ?e_ibt ?o_ibt ?v_ibt ?p_ibt ?tf_bt ?fi_bt ?a_ex ?pg_ex ?hd_ex ?po_ex ?sa_ex ?mk_ex ?kc_ex ?nk_ex ?nl_ex ?nm_ex ?ca_ex ?cm_ex ?is_ex ?ty_ex ?ai_ex ?if_ex ?l_iex ?c_iex ?e_iex ?o_iex ?v_iex ?p_iex ?tf_ex ?fi_ex ?ch_R ?ct_R ?sR_al ?s_al_am ?ne_al_am ?s_al_bt ?ne_al_bt ?s_al_ex ?ne_al_ex ?sR_am ?s_am_al ?ne_am_al ?s_am_bt ?ne_am_bt ?s_am_ex ?ne_am_ex ?sR_bt ?s_bt_al ?ne_bt_al ?s_bt_am ?ne_bt_am ?s_bt_ex ?ne_bt_ex ?sR_ex ?s_ex_al ?ne_ex_al ?s_ex_am ?ne_ex_am ?s_ex_bt ?ne_ex_bt ?m_al_al ?u_al_al ?m_am_am ?u_am_am ?m_bt_bt ?u_bt_bt ?m_bt_al ?u_bt_al ?m_bt_am ?u_bt_am ?m_ex_ex ?u_ex_ex ?m_ex_bt ?u_ex_bt ?m_ex_al ?u_ex_al ?m_ex_am ?u_ex_am ?sg_top ?z_super ?sg_opq ?a_RES ?t_RES ?hg_B ?hk_B ?hd_B ?ca_B ?cm_B ?a_ce ?is_ce ?ty_ce ?s_B_ce ?a_DIG ?z_len ?z_int ?z_abs ?z_list ?z_range ?z_sorted ?z_str ?z_isinstance ?z_sum ?z_tuple ?z_dict ?z_all ?z_bool ?z_enumerate
    (case a_isint => k_is)
    (case l_isint => k_is)
    (case c_isint => k_is)
    (case k_isint => k_is)
    (case a_isword => k_is)
    (case l_isword => k_is)
    (case c_isword => k_is)
    (case k_isword => k_is)
    (case a_source => k_is)
    (case l_source => k_is)
    (case c_source => k_is)
    (case k_source => k_is)
    (case a_mixed => k_is)
    (case l_mixed => k_is)
    (case c_mixed => k_is)
    (case k_mixed => k_is)
    (case a_draw => k_is)
    (case l_draw => k_is)
    (case c_draw => k_is)
    (case k_draw => k_is)
    (case a_distinct => k_is)
    (case l_distinct => k_is)
    (case c_distinct => k_is)
    (case k_distinct => k_is)
    (case a_iskind => k_is)
    (case l_iskind => k_is)
    (case c_iskind => k_is)
    (case k_iskind => k_is)
    (case a_isbound => k_is)
    (case l_isbound => k_is)
    (case c_isbound => k_is)
    (case k_isbound => k_is)
    (case a_kind => k_is)
    (case l_kind => k_is)
    (case c_kind => k_is)
    (case k_kind => k_is)
    (case a_kinds => k_is)
    (case l_kinds => k_is)
    (case c_kinds => k_is)
    (case k_kinds => k_is)
    (case a_forms => k_is)
    (case l_forms => k_is)
    (case c_forms => k_is)
    (case k_forms => k_is)
    (case a_isdigit => k_is)
    (case l_isdigit => k_is)
    (case c_isdigit => k_is)
    (case k_isdigit => k_is)
    (case a_rkinds => k_is)
    (case l_rkinds => k_is)
    (case c_rkinds => k_is)
    (case k_rkinds => k_is)
    (case a_rrule => k_is)
    (case l_rrule => k_is)
    (case c_rrule => k_is)
    (case k_rrule => k_is)
    (case a_what => k_is)
    (case l_what => k_is)
    (case c_what => k_is)
    (case k_what => k_is)
    (case a_faulty => k_is)
    (case l_faulty => k_is)
    (case c_faulty => k_is)
    (case k_faulty => k_is)
    (case a_nostr => k_is)
    (case l_nostr => k_is)
    (case c_nostr => k_is)
    (case k_nostr => k_is)
    (case a_law => k_is)
    (case l_law => k_is)
    (case c_law => k_is)
    (case k_law => k_is)
    (case a_B => k_is)
    (case x_B => k_is)
    (case sa_B => k_is)
    (case ec_B => k_is)
    (case ty_B => k_is)
    (case kc_B => k_is)
    (case is_B => k_is)
    (case ss_B => k_is)
    (case nf_B => k_is)
    (case a_xr => k_is)
    (case t_xr => k_is)
    (case l_xr => k_is)
    (case c_xr => k_is)
    (case k_xr => k_is)
    (case a_LET => k_is)
    (case a_R => k_is)
    (case is_R => k_is)
    (case ty_R => k_is)
    (case ai_R => k_is)
    (case l_iR => k_is)
    (case c_iR => k_is)
    (case tf_R => k_is)
    (case fi_R => k_is)
    (case a_al => k_is)
    (case pg_al => k_is)
    (case hd_al => k_is)
    (case po_al => k_is)
    (case sa_al => k_is)
    (case mk_al => k_is)
    (case kc_al => k_is)
    (case nk_al => k_is)
    (case nl_al => k_is)
    (case nm_al => k_is)
    (case ca_al => k_is)
    (case cm_al => k_is)
    (case is_al => k_is)
    (case ty_al => k_is)
    (case ai_al => k_is)
    (case if_al => k_is)
    (case l_ial => k_is)
    (case c_ial => k_is)
    (case e_ial => k_is)
    (case o_ial => k_is)
    (case v_ial => rfl)
    (case p_ial => first | rfl | decide +kernel)
    (case tf_al => k_is)
    (case fi_al => k_is)
    (case a_am => k_is)
    (case pg_am => k_is)
    (case hd_am => k_is)
    (case po_am => k_is)
    (case sa_am => k_is)
    (case mk_am => k_is)
    (case kc_am => k_is)
    (case nk_am => k_is)
    (case nl_am => k_is)
    (case nm_am => k_is)
    (case ca_am => k_is)
    (case cm_am => k_is)
    (case is_am => k_is)
    (case ty_am => k_is)
    (case ai_am => k_is)
    (case if_am => k_is)
    (case l_iam => k_is)
    (case c_iam => k_is)
    (case e_iam => k_is)
    (case o_iam => k_is)
    (case v_iam => rfl)
    (case p_iam => first | rfl | decide +kernel)
    (case tf_am => k_is)
    (case fi_am => k_is)
    (case a_bt => k_is)
    (case pg_bt => k_is)
    (case hd_bt => k_is)
    (case po_bt => k_is)
    (case sa_bt => k_is)
    (case mk_bt => k_is)
    (case kc_bt => k_is)
    (case nk_bt => k_is)
    (case nl_bt => k_is)
    (case nm_bt => k_is)
    (case ca_bt => k_is)
    (case cm_bt => k_is)
    (case is_bt => k_is)
    (case ty_bt => k_is)
    (case ai_bt => k_is)
    (case if_bt => k_is)
    (case l_ibt => k_is)
    (case c_ibt => k_is)
    (case e_ibt => k_is)
    (case o_ibt => k_is)
    (case v_ibt => rfl)
    (case p_ibt => first | rfl | decide +kernel)
    (case tf_bt => k_is)
    (case fi_bt => k_is)
    (case a_ex => k_is)
    (case pg_ex => k_is)
    (case hd_ex => k_is)
    (case po_ex => k_is)
    (case sa_ex => k_is)
    (case mk_ex => k_is)
    (case kc_ex => k_is)
    (case nk_ex => k_is)
    (case nl_ex => k_is)
    (case nm_ex => k_is)
    (case ca_ex => k_is)
    (case cm_ex => k_is)
    (case is_ex => k_is)
    (case ty_ex => k_is)
    (case ai_ex => k_is)
    (case if_ex => k_is)
    (case l_iex => k_is)
    (case c_iex => k_is)
    (case e_iex => k_is)
    (case o_iex => k_is)
    (case v_iex => rfl)
    (case p_iex => first | rfl | decide +kernel)
    (case tf_ex => k_is)
    (case fi_ex => k_is)
    (case ch_R => k_is)
    (case ct_R => k_is)
    (case sR_al => k_is)
    (case s_al_am => k_is)
    (case ne_al_am => decide)
    (case s_al_bt => k_is)
    (case ne_al_bt => decide)
    (case s_al_ex => k_is)
    (case ne_al_ex => decide)
    (case sR_am => k_is)
    (case s_am_al => k_is)
    (case ne_am_al => decide)
    (case s_am_bt => k_is)
    (case ne_am_bt => decide)
    (case s_am_ex => k_is)
    (case ne_am_ex => decide)
    (case sR_bt => k_is)
    (case s_bt_al => k_is)
    (case ne_bt_al => decide)
    (case s_bt_am => k_is)
    (case ne_bt_am => decide)
    (case s_bt_ex => k_is)
    (case ne_bt_ex => decide)
    (case sR_ex => k_is)
    (case s_ex_al => k_is)
    (case ne_ex_al => decide)
    (case s_ex_am => k_is)
    (case ne_ex_am => decide)
    (case s_ex_bt => k_is)
    (case ne_ex_bt => decide)
    (case m_al_al => k_is)
    (case u_al_al => ks_is)
    (case m_am_am => k_is)
    (case u_am_am => ks_is)
    (case m_bt_bt => k_is)
    (case u_bt_bt => ks_is)
    (case m_bt_al => k_is)
    (case u_bt_al => ks_is)
    (case m_bt_am => k_is)
    (case u_bt_am => ks_is)
    (case m_ex_ex => k_is)
    (case u_ex_ex => ks_is)
    (case m_ex_bt => k_is)
    (case u_ex_bt => ks_is)
    (case m_ex_al => k_is)
    (case u_ex_al => ks_is)
    (case m_ex_am => k_is)
    (case u_ex_am => ks_is)
    (case sg_top => first | rfl | decide +kernel)
    (case z_super => k_is)
    (case sg_opq => k_is)
    (case a_RES => k_is)
    (case t_RES => k_is)
    (case hg_B => k_is)
    (case hk_B => k_is)
    (case hd_B => k_is)
    (case ca_B => k_is)
    (case cm_B => k_is)
    (case a_ce => k_is)
    (case is_ce => k_is)
    (case ty_ce => k_is)
    (case s_B_ce => k_is)
    (case a_DIG => k_is)
    (case z_len => k_is)
    (case z_int => k_is)
    (case z_abs => k_is)
    (case z_list => k_is)
    (case z_range => k_is)
    (case z_sorted => k_is)
    (case z_str => k_is)
    (case z_isinstance => k_is)
    (case z_sum => k_is)
    (case z_tuple => k_is)
    (case z_dict => k_is)
    (case z_all => k_is)
    (case z_bool => k_is)
    (case z_enumerate => k_is)
