import PyProof.Rows.All
import Wide.All
import OpenK.AllK
import Wide.FinOn
import HandS.ForMost
import HandS.Nested
import HandS.Set
import HandS.SetBool
import PyProof.Rows.SortShellAny
import KE.KOpsOwn
import HandS.Star
import HandS.ClsMeth
import HandS.Property
import HandS.CallRecv
import HandS.Codes
import HandS.Wide
import HandS.IsInst
import HandS.RaiseMore
import HandS.Walk
import KE.KSuper
import KE.KStar
import HandS.Replace
import HandS.ExcInit
import HandS.TryOnly
import HandS.WordsExc
import HandS.ExcOwn
import HandS.ExcIs
import HandS.ExcField
import HandS.NoneIn
import KE.RegKSuper
import PySem.Challenge.RW_countsheld_k13_rules_refused
set_option Elab.async false
set_option linter.all false
set_option maxRecDepth 100000
set_option maxHeartbeats 4000000
namespace Cs
open PySem L2
def top (i : Nat) : Stmt := PySem.Challenge.pw_countsheld_k13_rules_refused.main.body.getD i (.Pass ⟨0, 0, 0, 0⟩)
abbrev s_BadRule_init : Stmt := inClass (top 3) 0
theorem sc_BadRule_init : FnScope ["self", "what"] ["self", "what"] (defScope s_BadRule_init) :=
  ⟨rfl, rfl, rfl, by decide +kernel, rfl, by decide +kernel, by decide +kernel⟩
abbrev s_BadRules_init : Stmt := inClass (top 4) 0
theorem sc_BadRules_init : FnScope ["self", "what"] ["self", "what"] (defScope s_BadRules_init) :=
  ⟨rfl, rfl, rfl, by decide +kernel, rfl, by decide +kernel, by decide +kernel⟩
abbrev s_is_integer : Stmt := top 6
theorem sc_is_integer : FnScope ["thing"] ["thing"] (defScope s_is_integer) :=
  ⟨rfl, rfl, rfl, by decide +kernel, rfl, by decide +kernel, by decide +kernel⟩
abbrev s_is_word : Stmt := top 10
theorem sc_is_word : FnScope ["thing", "sign"] ["thing"] (defScope s_is_word) :=
  ⟨rfl, rfl, rfl, by decide +kernel, rfl, by decide +kernel, by decide +kernel⟩
abbrev s_is_kind : Stmt := top 11
theorem sc_is_kind : FnScope ["thing"] ["thing"] (defScope s_is_kind) :=
  ⟨rfl, rfl, rfl, by decide +kernel, rfl, by decide +kernel, by decide +kernel⟩
abbrev s_distinct : Stmt := top 12
theorem sc_distinct : FnScope ["words", "word"] ["words"] (defScope s_distinct) :=
  ⟨rfl, rfl, rfl, by decide +kernel, rfl, by decide +kernel, by decide +kernel⟩
abbrev s_is_bound : Stmt := top 14
theorem sc_is_bound : FnScope ["thing"] ["thing"] (defScope s_is_bound) :=
  ⟨rfl, rfl, rfl, by decide +kernel, rfl, by decide +kernel, by decide +kernel⟩
abbrev s_Rule_init : Stmt := inClass (top 15) 0
theorem sc_Rule_init : FnScope ["self", "kinds", "kind"] ["self", "kinds"] (defScope s_Rule_init) :=
  ⟨rfl, rfl, rfl, by decide +kernel, rfl, by decide +kernel, by decide +kernel⟩
abbrev s_Rule_sum_text : Stmt := inClass (top 15) 4
theorem sc_Rule_sum_text : FnScope ["self"] ["self"] (defScope s_Rule_sum_text) :=
  ⟨rfl, rfl, rfl, by decide +kernel, rfl, by decide +kernel, by decide +kernel⟩
abbrev s_Rule_eq : Stmt := inClass (top 15) 5
theorem sc_Rule_eq : FnScope ["self", "other", "same"] ["self", "other"] (defScope s_Rule_eq) :=
  ⟨rfl, rfl, rfl, by decide +kernel, rfl, by decide +kernel, by decide +kernel⟩
abbrev s_AtLeast_init : Stmt := inClass (top 16) 0
theorem sc_AtLeast_init : NdefX.NScope ["self", "least", "rest", "__class__"] ["self", "least", "rest"] ["__class__"] (defScope s_AtLeast_init) := NdefX.nscope_by (by decide +kernel)
abbrev s_AtLeast_str : Stmt := inClass (top 16) 3
theorem sc_AtLeast_str : FnScope ["self"] ["self"] (defScope s_AtLeast_str) :=
  ⟨rfl, rfl, rfl, by decide +kernel, rfl, by decide +kernel, by decide +kernel⟩
abbrev s_AtMost_init : Stmt := inClass (top 17) 0
theorem sc_AtMost_init : NdefX.NScope ["self", "most", "kinds", "__class__"] ["self", "most", "kinds"] ["__class__"] (defScope s_AtMost_init) := NdefX.nscope_by (by decide +kernel)
abbrev s_AtMost_str : Stmt := inClass (top 17) 3
theorem sc_AtMost_str : FnScope ["self"] ["self"] (defScope s_AtMost_str) :=
  ⟨rfl, rfl, rfl, by decide +kernel, rfl, by decide +kernel, by decide +kernel⟩
abbrev s_Between_init : Stmt := inClass (top 18) 0
theorem sc_Between_init : NdefX.NScope ["self", "least", "most", "kinds", "__class__"] ["self", "least", "most", "kinds"] ["__class__"] (defScope s_Between_init) := NdefX.nscope_by (by decide +kernel)
abbrev s_Between_str : Stmt := inClass (top 18) 3
theorem sc_Between_str : FnScope ["self"] ["self"] (defScope s_Between_str) :=
  ⟨rfl, rfl, rfl, by decide +kernel, rfl, by decide +kernel, by decide +kernel⟩
abbrev s_Exactly_init : Stmt := inClass (top 19) 0
theorem sc_Exactly_init : NdefX.NScope ["self", "number", "kinds", "__class__"] ["self", "number", "kinds"] ["__class__"] (defScope s_Exactly_init) := NdefX.nscope_by (by decide +kernel)
abbrev s_Exactly_str : Stmt := inClass (top 19) 3
theorem sc_Exactly_str : FnScope ["self"] ["self"] (defScope s_Exactly_str) :=
  ⟨rfl, rfl, rfl, by decide +kernel, rfl, by decide +kernel, by decide +kernel⟩
abbrev s_l_source : Stmt := top 21
theorem sc_l_source : FnScope ["_law_script"] ["_law_script"] (defScope s_l_source) :=
  ⟨rfl, rfl, rfl, by decide +kernel, rfl, by decide +kernel, by decide +kernel⟩
abbrev s_l_mixed : Stmt := top 22
theorem sc_l_mixed : FnScope ["_law_cell", "_law_count", "_law_first"] ["_law_cell", "_law_count"] (defScope s_l_mixed) :=
  ⟨rfl, rfl, rfl, by decide +kernel, rfl, by decide +kernel, by decide +kernel⟩
abbrev s_l_draw : Stmt := top 23
theorem sc_l_draw : FnScope ["_law_source_here", "_law_size", "_law_at", "_law_cell", "_law_value"] ["_law_source_here", "_law_size"] (defScope s_l_draw) :=
  ⟨rfl, rfl, rfl, by decide +kernel, rfl, by decide +kernel, by decide +kernel⟩
abbrev s_l_kind : Stmt := top 24
theorem sc_l_kind : FnScope ["_law_source_here", "_law_taken", "_law_letters", "_law_barred", "_law_words", "_law_word", "_law_k"] ["_law_source_here", "_law_taken"] (defScope s_l_kind) :=
  ⟨rfl, rfl, rfl, by decide +kernel, rfl, by decide +kernel, by decide +kernel⟩
abbrev s_l_kinds : Stmt := top 25
theorem sc_l_kinds : FnScope ["_law_source_here", "_law_many", "_law_kinds_here", "_law_k"] ["_law_source_here", "_law_many"] (defScope s_l_kinds) :=
  ⟨rfl, rfl, rfl, by decide +kernel, rfl, by decide +kernel, by decide +kernel⟩
abbrev s_l_four : Stmt := top 26
theorem sc_l_four : FnScope ["_law_low", "_law_high", "_law_kinds_here", "_law_one", "_law_two", "_law_three", "_law_found"] ["_law_low", "_law_high", "_law_kinds_here"] (defScope s_l_four) :=
  ⟨rfl, rfl, rfl, by decide +kernel, rfl, by decide +kernel, by decide +kernel⟩
abbrev s_l_ends : Stmt := top 27
theorem sc_l_ends : FnScope ["_law_low", "_law_high"] ["_law_low", "_law_high"] (defScope s_l_ends) :=
  ⟨rfl, rfl, rfl, by decide +kernel, rfl, by decide +kernel, by decide +kernel⟩
abbrev s_l_call : Stmt := top 28
theorem sc_l_call : FnScope ["_law_mode", "_law_low", "_law_high", "_law_kinds_here", "_law_one", "_law_two", "_law_three", "_law_four_here"] ["_law_mode", "_law_low", "_law_high", "_law_kinds_here"] (defScope s_l_call) :=
  ⟨rfl, rfl, rfl, by decide +kernel, rfl, by decide +kernel, by decide +kernel⟩
abbrev s_l_what : Stmt := top 29
theorem sc_l_what : FnScope ["_law_mode", "_law_low", "_law_high", "_law_kinds_here", "e"] ["_law_mode", "_law_low", "_law_high", "_law_kinds_here"] (defScope s_l_what) :=
  ⟨rfl, rfl, rfl, by decide +kernel, rfl, by decide +kernel, by decide +kernel⟩
abbrev s_l_wrong_kinds : Stmt := top 30
theorem sc_l_wrong_kinds : FnScope ["_law_choice", "_law_kinds_here", "_law_one", "_law_rows"] ["_law_choice", "_law_kinds_here"] (defScope s_l_wrong_kinds) :=
  ⟨rfl, rfl, rfl, by decide +kernel, rfl, by decide +kernel, by decide +kernel⟩
abbrev s_l_wrong_number : Stmt := top 31
theorem sc_l_wrong_number : FnScope ["_law_choice"] ["_law_choice"] (defScope s_l_wrong_number) :=
  ⟨rfl, rfl, rfl, by decide +kernel, rfl, by decide +kernel, by decide +kernel⟩
abbrev s_law : Stmt := top 32
theorem sc_law : FnScope ["_law_script", "_law_source_here", "_law_kinds_here", "_law_low", "_law_high", "_law_wrong", "_law_bad", "_law_mode", "_law_barred", "_law_word"] ["_law_script"] (defScope s_law) :=
  ⟨rfl, rfl, rfl, by decide +kernel, rfl, by decide +kernel, by decide +kernel⟩
end Cs

set_option Elab.async false
set_option linter.all false
set_option maxRecDepth 100000
set_option maxHeartbeats 4000000
/-! Sets of texts as a set comprehension makes them: a list of members without repeats, up to order; and sorted(..) of such a set. -/
namespace Cs
open PySem PySem.Spec PyProof.Rows L2

def tkey (e : Int × Value) : Str := match e.2 with | .str z _ => z | _ => Str.empty
def TGood (w : World) (e : Int × Value) : Prop := ∃ z tk, e.2 = Value.str z tk ∧ e.1 = hashStr w z
/-- a set object whose members are the texts zs (in some order) -/
def TSet (w : World) (h : Heap) (a : Addr) (zs : List Str) : Prop :=
  ∃ o es ep t, h.get? a = some o ∧ o.ExactSet ∧ o.data = .set es ep t ∧ (∀ e ∈ es.toList, TGood w e)
    ∧ (es.toList.map tkey).Perm zs ∧ zs.Nodup ∧ es.size < scanBound ∧ t.fits es.size = true
    ∧ Ris t.place.toList ∧ (w.params.followText "set-order" = true ∨ t.led = true)

section
variable {P : Program} {w : World} {h h' : Heap} {a : Addr} {zs : List Str}
theorem TSet.there (R : TSet w h a zs) (k : ∀ o, h.get? a = some o → h'.get? a = some o) : TSet w h' a zs := by
  obtain ⟨o, es, ep, t, q, r⟩ := R
  exact ⟨o, es, ep, t, k o q, r⟩
theorem TGood.elems {l : List (Int × Value)} (g : ∀ e ∈ l, TGood w e) : ElemsOf (PySem.strKind P w) l := fun e m => by
  obtain ⟨z, tk, e1, e2⟩ := g e m
  refine ⟨⟨z, ?_, e2⟩, ?_⟩
  · rw [e1]
    show Value.isStrOf z (.str z tk) = true
    simp [Value.isStrOf]
  · rw [e1]
    rfl
theorem TGood.is_iff {e : Int × Value} (g : TGood w e) (z : Str) : (PySem.strKind P w).is z e.2 = true ↔ tkey e = z := by
  obtain ⟨y, tk, e1, _⟩ := g
  unfold tkey
  rw [e1]
  show Value.isStrOf z (.str y tk) = true ↔ y = z
  simp [Value.isStrOf]
theorem TGood.mem_iff {l : List (Int × Value)} (g : ∀ e ∈ l, TGood w e) (z : Str) : z ∈ l.map tkey ↔ ∃ e ∈ l, (PySem.strKind P w).is z e.2 = true := by
  constructor
  · intro m
    obtain ⟨e, he, q⟩ := List.mem_map.mp m
    exact ⟨e, he, (TGood.is_iff (g e he) z).mpr q⟩
  · rintro ⟨e, he, q⟩
    exact List.mem_map.mpr ⟨e, he, (TGood.is_iff (g e he) z).mp q⟩
end

section
variable {P : Program} {w : World} {A : Around} {E : Value → Shared → Prop} {s : Shared} {a : Addr} {zs : List Str}
/-- the end of an addition: the table is stored, laid anew where it is too full -/
theorem tset_tail {g : Bool → Sem Unit} (hg : ∀ (b : Bool) (s1 : Shared) (Q1 : Unit → Shared → Prop), Q1 () s1 → wpAny (model P w) A (g b) Q1 E s1)
    {o : Obj} {es es1 : Array (Int × Value)} {ep : Nat} {t t1 : SetTable} (ho : s.heap.get? a = some o) (hex : o.ExactSet) (hd : o.data = .set es ep t)
    (gd : ∀ e ∈ es1.toList, TGood w e) (pz : (es1.toList.map tkey).Perm zs) (nz : zs.Nodup) (hb : es1.size < scanBound) (hf : t1.fits es1.size = true)
    (hr : Ris t1.place.toList) (hl : w.params.followText "set-order" = true ∨ t1.led = true) {dm : Bool} {R : Option Bool → Shared → Prop}
    (hR : ∀ h', Heap.SameBut a s.heap h' → TSet w h' a zs → R (some true) { s with heap := h' }) :
    wpAny (model P w) A (do
        storeSet a es1 t1
        if (!dm && t1.tooFull) = true then do
            g (relayAll t1 es1 (SetTable.grown es1.size)).2.2
            storeSet a (relayAll t1 es1 (SetTable.grown es1.size)).1 (relayAll t1 es1 (SetTable.grown es1.size)).2.1
            pure (some true)
          else pure (some true)) R E s := by
  refine wpAny_bind (wpAny_storeSet_of ho hd ?_ (fits_of_scanBound hb))
  have ho1 := store_at (es' := es1) (t' := t1) ho hd
  have same := Heap.SameBut.update s.heap a (Obj.putSet es1 t1)
  split
  · have p2 := relayAll_perm t1 es1 (SetTable.grown es1.size)
    have f2 := relayAll_fits t1 es1 (SetTable.grown es1.size)
    have r2 := relayAll_ris t1 es1 (SetTable.grown es1.size)
    have l2 := relayAll_led t1 es1 (SetTable.grown es1.size)
    generalize relayAll t1 es1 (SetTable.grown es1.size) = Z at p2 f2 r2 l2 ⊢
    obtain ⟨es2, t2, gv⟩ := Z
    dsimp only at p2 f2 r2 l2 ⊢
    have sz : es2.size = es1.size := by rw [← Array.length_toList, p2.length_eq, Array.length_toList]
    have hb2 : es2.size < scanBound := sz ▸ hb
    refine wpAny_bind (hg _ _ _ (wpAny_bind (wpAny_storeSet_of ho1 rfl ?_ (fits_of_scanBound hb2))))
    have ho2 := store_at (es' := es2) (t' := t2) ho1 rfl
    exact wpAny_pure (hR _ (same.trans (Heap.SameBut.update _ a _)) ⟨_, es2, _, t2, ho2, hex, rfl, fun e m => gd e (p2.mem_iff.mp m), (p2.map tkey).trans pz, nz, hb2, f2, r2, hl.imp id fun q => by rw [l2]; exact q⟩)
  · exact wpAny_pure (hR _ same ⟨_, es1, _, t1, ho1, hex, rfl, gd, pz, nz, hb, hf, hr, hl⟩)

/-- one text more -/
def addT (zs : List Str) (z : Str) : List Str := if z ∈ zs then zs else zs ++ [z]

theorem tset_hashed {z : Str} {tk : Tok} {Q : Bool → Shared → Prop} (R : TSet w s.heap a zs) (room : zs.length + 1 < scanBound)
    (hQ : ∀ b h', Heap.SameBut a s.heap h' → TSet w h' a (addT zs z) → Q b { s with heap := h' }) :
    wpAny (model P w) A (setAddHashed a (.str z tk) ((PySem.strKind P w).hash z)) Q E s := by
  obtain ⟨o, es, ep, t, ho, hex, hd, gd, pz, nz, hb, hf, hr, hl⟩ := R
  have hkey : (PySem.strKind P w).is z (.str z tk) = true := by
    show Value.isStrOf z (.str z tk) = true
    simp [Value.isStrOf]
  have hsc : (Value.str z tk).scannable = true := rfl
  have hel : ElemsOf (PySem.strKind P w) es.toList := TGood.elems gd
  have hn : es.size = zs.length := by rw [← Array.length_toList, ← pz.length_eq, List.length_map]
  unfold setAddHashed setAddHashedIn
  refine wpAny_holding (wpAny_bind (wpAny_setState_of ho hd hf ?_))
  dsimp only
  rw [byScan_of hsc hb hel]
  simp only [↓reduceIte]
  unfold setAddByScan
  refine wpAny_bind (wpAny_bind (wpAny_rule (wpAny_bind (wpAny_setScan_of hkey ho hd hf hel ?_))))
  cases hfi : List.findIdx? (fun e => (PySem.strKind P w).is z e.2) es.toList with
  | some j =>
    dsimp only
    obtain ⟨hj, pj, _⟩ := List.findIdx?_eq_some_iff_getElem.mp hfi
    have hin : z ∈ zs := pz.mem_iff.mp ((TGood.mem_iff (P := P) gd z).mpr ⟨_, List.getElem_mem hj, pj⟩)
    have q := hQ false s.heap (Heap.SameBut.refl a s.heap)
    rw [show addT zs z = zs from if_pos hin] at q
    exact wpAny_pure (wpAny_pure (q ⟨o, es, ep, t, ho, hex, hd, gd, pz, nz, hb, hf, hr, hl⟩))
  | none =>
    dsimp only
    have hout : z ∉ zs := fun m => by
      obtain ⟨e, he, q⟩ := (TGood.mem_iff (P := P) (w := w) gd z).mp (pz.mem_iff.mpr m)
      have c := List.findIdx?_eq_none_iff.mp hfi e he
      rw [q] at c
      cases c
    have hgw : ∀ (b : Bool) {s1 : Shared} {Q1 : Unit → Shared → Prop}, Q1 () s1 → wpAny (model P w) A (match b with | true => rule "set.scan.the-table-gave-way" | false => pure ()) Q1 E s1 :=
      fun b s1 Q1 q => by cases b <;> first | exact wpAny_pure q | exact wpAny_rule q
    have p1 := layNew_perm t es ((PySem.strKind P w).hash z) (.str z tk)
    have f1 := layNew_fits t es ((PySem.strKind P w).hash z) (.str z tk)
    have r1 := layNew_ris t es ((PySem.strKind P w).hash z) (.str z tk) hr
    have l1 := layNew_led t es ((PySem.strKind P w).hash z) (.str z tk)
    generalize layNew t es ((PySem.strKind P w).hash z) (.str z tk) = Z at p1 f1 r1 l1 ⊢
    obtain ⟨es1, t1, dm, gv⟩ := Z
    dsimp only at p1 f1 r1 l1 ⊢
    rw [Array.toList_push] at p1
    have gd1 : ∀ e ∈ es1.toList, TGood w e := fun e m => by
      rcases List.mem_append.mp (p1.mem_iff.mp m) with q | q
      · exact gd e q
      · rw [List.mem_singleton.mp q]
        exact ⟨z, tk, rfl, rfl⟩
    have ez : addT zs z = zs ++ [z] := if_neg hout
    have pz1 : (es1.toList.map tkey).Perm (addT zs z) := by
      rw [ez]
      refine (p1.map tkey).trans ?_
      rw [List.map_append]
      exact pz.append_right _
    have nz1 : (addT zs z).Nodup := by
      rw [ez]
      exact nd_snoc nz hout
    have sz1 : es1.size = zs.length + 1 := by
      rw [← Array.length_toList, p1.length_eq, List.length_append, Array.length_toList, hn]
      rfl
    have hb1 : es1.size < scanBound := by rw [sz1]; exact room
    have hl1 : w.params.followText "set-order" = true ∨ t1.led = true := hl.imp id fun q => by rw [l1]; exact q
    have fin : ∀ h', Heap.SameBut a s.heap h' → TSet w h' a (addT zs z) → Q true { s with heap := h' } := hQ true
    refine wpAny_bind (hgw _ ?_)
    split
    · refine wpAny_bind ?_
      rw [hashByValue_scannable 8 hsc]
      refine wpAny_pure ?_
      refine tset_tail ?_ ho hex hd gd1 pz1 nz1 hb1 ?_ ?_ ?_ ?_
      · intro b s1 Q1 q
        cases b <;> first | exact wpAny_pure q | exact wpAny_rule q
      · first | (split <;> first | exact f1 | exact SetTable.fits_plain_off f1) | exact f1
      · first | (split <;> exact r1) | exact r1
      · first | (split <;> exact hl1) | exact hl1
      · intro h' sb r
        dsimp only
        exact wpAny_pure (fin h' sb r)
    · refine wpAny_bind (wpAny_pure ?_)
      simp only [↓reduceIte]
      refine tset_tail ?_ ho hex hd gd1 pz1 nz1 hb1 f1 r1 hl1 ?_
      · intro b s1 Q1 q
        cases b <;> first | exact wpAny_pure q | exact wpAny_rule q
      · intro h' sb r
        dsimp only
        exact wpAny_pure (fin h' sb r)

theorem TSet.typeIs {zs : List Str} (R : TSet w s.heap a zs) : s.TypeIs (.ref a) "set" := by
  obtain ⟨o, es, ep, t, ho, hex, _⟩ := R
  exact ⟨o, ho, hex.1⟩
/-- s.add(z) -/
theorem tset_add {z : Str} {tk : Tok} {Q : Value → Shared → Prop} (R : TSet w s.heap a zs) (room : zs.length + 1 < scanBound)
    (hQ : ∀ h', Heap.SameBut a s.heap h' → TSet w h' a (addT zs z) → Q .none { s with heap := h', toks := s.toks + 1 }) :
    wpAny (model P w) A (call (.builtin "set.add") [.ref a, .str z tk]) Q E s := by
  have hkey : (PySem.strKind P w).is z (.str z tk) = true := by
    show Value.isStrOf z (.str z tk) = true
    simp [Value.isStrOf]
  refine wpAny_call_entry F.slot_set_add R.typeIs F.entry_set_add ?_ (F.args_set_add_2 _ _)
  unfold Builtin.«set.add» Builtin.Frozenset.oneOther
  simp only [List.isEmpty_nil, bind_assoc]
  unfold Builtin.Frozenset.addrOf setAdd
  refine wpAny_bind (wpAny_pure ?_)
  try dsimp only
  refine wpAny_bind (wpAny_pure ?_)
  try dsimp only
  refine wpAny_bind (wpAny_holding (wpAny_bind ((PySem.strKind P w).pyHash hkey ?_)))
  refine tset_hashed (s := { s with toks := s.toks + 1 }) R room fun b h' sb r => ?_
  show wpAny _ _ (ret Value.none) _ _ _
  exact wpAny_pure ⟨_, rfl, hQ h' sb r⟩
theorem tset_fresh {h : Heap} (w : World) : TSet w (h.push { cls := .type "set", dict := none, data := .set #[] 0 (.fresh 0 0 (!w.params.followText "set-order")) }) h.objs.size [] := by
  refine ⟨_, #[], 0, _, Heap.get?_push_size _ rfl, ⟨rfl, rfl, rfl⟩, rfl, (fun e m => by simp at m), .nil, .nil, by decide, rfl, .nil, ?_⟩
  show _ ∨ (!w.params.followText "set-order") = true
  cases w.params.followText "set-order"
  · exact Or.inr rfl
  · exact Or.inl rfl

/-! ### sorted -/
theorem strs_of : ∀ (l : List Value), (∀ v ∈ l, ∃ z tk, v = Value.str z tk) → StrsAre l (l.map fun v => tkey (0, v))
  | [], _ => .nil
  | v :: l, h => by
    obtain ⟨z, tk, rfl⟩ := h v List.mem_cons_self
    exact .cons z tk (strs_of l fun u m => h u (List.mem_cons_of_mem _ m))
theorem tset_sorted {Q : Value → Shared → Prop} (R : TSet w s.heap a zs) (hh : A.handled = none)
    (hQ : ∀ s' p (out : Array Value) (c : Nat) (ys : List Str), (∀ b o, s.heap.get? b = some o → s'.heap.get? b = some o) → s'.gens = s.gens → s'.os = s.os → s.heap.objs.size ≤ p →
      s'.heap.get? p = some (seqObj "list" out c) → StrsAre out.toList ys → ys.Perm zs → sortedS ys = true → Q (.ref p) s') :
    wpAny (model P w) A (call (.builtin "sorted") [.ref a]) Q E s := by
  obtain ⟨o, es, ep, t, ho, hex, hd, gd, pz, nz, hb, hf, hr, hl⟩ := R
  refine Calls.call_function_entry kind_sorted plain_sorted entry_sorted (args_sorted1 _) ?_
  unfold Builtin.«sorted»
  refine wpAny_bind (m := checkCount "sorted" 1 1 _) (wpAny_pure ?_)
  refine wpAny_bind (collect_set (A := A.in1) hh ⟨o, ho, hex.1, hd⟩ hf hb hr hl fun s1 vs k1 hz g1 o1 pm => ?_)
  have hvl : vs.length = es.size := by rw [pm.length_eq, List.length_map, Array.length_toList]
  have hS : StrsAre vs (vs.map fun v => tkey (0, v)) := strs_of vs fun v hv => by
    obtain ⟨e, he, q⟩ := List.mem_map.mp (pm.mem_iff.mp hv)
    obtain ⟨z, tk, e1, _⟩ := gd e he
    exact ⟨z, tk, by rw [← q]; exact e1⟩
  have pk : (vs.map fun v => tkey (0, v)).Perm zs := by
    have q := pm.map fun v => tkey (0, v)
    rw [List.map_map] at q
    exact q.trans pz
  have hln : vs.length ≤ sizeLine := by
    rw [hvl]
    exact fits_of_scanBound hb
  refine wpAny_bind (wpAny_newList ?_ hln)
  have hoL : (s1.heap.push (seqObj "list" vs.toArray 0)).get? s1.heap.objs.size = some (seqObj "list" vs.toArray 0) := Heap.get?_push_size _ rfl
  refine wpAny_bind (wpAny_holding (wpAny_call_entry slot_list_sort ⟨_, hoL, rfl⟩ entry_list_sort (list_sort_treeKAny strKind_oneLt hoL hS.keysOf (fun v1 v2 rest e => keyKind_strs (by rw [← e]; exact hS)) hln fun st' hp hs => ⟨_, rfl, ?_⟩) (args_list_sort _)))
  obtain ⟨ys, a1, a2, a3⟩ := sorted_out_str hS hp hs
  generalize (arrOf st').map (·.2) = out at a1 ⊢
  obtain ⟨c, hc⟩ := sortedHeap_at (vs := vs) (out := out) hoL
  refine wpAny_pure ⟨_, rfl, hQ _ s1.heap.objs.size out c ys (fun b u e => ?_) g1 o1 hz hc a1 (a2.trans pk) a3⟩
  have q := k1 b u e
  have hlt := Heap.lt_size q
  show (sortedHeap (s1.heap.push (seqObj "list" vs.toArray 0)) s1.heap.objs.size vs out).get? b = some u
  rw [sortedHeap_old (Nat.ne_of_lt hlt) (by rw [size_push']; exact Nat.lt_succ_of_lt hlt)]
  exact Heap.get?_push_of_some _ q
end

/-! ### over the abstract heap -/
def TSetO (w : World) (a : Addr) (zs : List Str) : HO := .ext fun h => TSet w h a zs
theorem tsetO_new {w : World} {P : Program} {H : Hp} {h : Heap} {a : Addr} {zs : List Str} (R : TSet w h a zs) : ObjOk P w H h a (TSetO w a zs) := by
  have ⟨o, _, _, _, ho, _⟩ := R
  exact ⟨R, ⟨o, ho⟩, fun h1 h2 p k => TSet.there p k⟩
section
variable {X : Cx} {pins : List (Addr × Obj)} {σ : L2.St} {H : Hp} {s : Shared} {zs : List Str}
theorem tsetO_get {a : Addr} (I : Inv X pins σ H s) (ha : H a = some (TSetO X.w a zs)) : TSet X.w s.heap a zs := (I.hok a _ ha).1
theorem tsetO_add {E : Value → Shared → Prop} {D : Addr} {z : Str} {tk : Tok} {Q : Value → Shared → Prop} (I : Inv X pins σ H s) (hD : H D = some (TSetO X.w D zs)) (room : zs.length + 1 < scanBound)
    (h : ∀ s', Inv X pins σ (upd H D (TSetO X.w D (addT zs z))) s' → Q .none s') : wpAny (model X.prog X.w) X.A (call (.builtin "set.add") [.ref D, .str z tk]) Q E s := by
  refine tset_add (tsetO_get I hD) room fun h' sb new => h _ ?_
  have he : ∃ u, h'.get? D = some u := by
    have ⟨o, _, _, _, ho, _⟩ := new
    exact ⟨o, ho⟩
  exact I.write (e := D) (t' := s.toks + 1) (by rw [hD]; trivial) (.inl rfl) (fun b u hb hu => (sb.2 b hb).trans hu) he (tsetO_new new)
/-- sorted(s), s a set of texts -/
def rSortT (w : World) : List V → Hp → VK → Prop := fun vs H Q => ∃ (a : Addr) (zs : List Str), vs = [V.ref a] ∧ H a = some (TSetO w a zs) ∧ zs.length ≤ 100000 ∧
  ∀ (ys : List Str) (p : Addr), ys.Perm zs → sortedS ys = true → H p = none → Q (.ref p) (upd H p (.lst (ys.map V.str)))
theorem cr_sortT (hc : X.calm = true) : CallR X (.builtin "sorted") (rSortT X.w) := by
  intro pins s σ H vs us Q I r h
  obtain ⟨a, zs, rfl, ha, hz, q⟩ := h
  rw [Vals.ref1 r]
  refine tset_sorted (tsetO_get I ha) (I.ok.hd hc) fun s' p out c ys k g o hp hg hS hperm hsrt => ?_
  have hlen : (ys.map V.str).length ≤ sizeLine := by
    rw [List.length_map, hperm.length_eq]
    exact Nat.le_trans hz (by decide)
  have hn : H p = none := I.hok.fresh hp
  have J : Inv X pins σ (upd H p (.lst (ys.map V.str))) { s with heap := s'.heap, gens := s'.gens, drawn := s'.drawn, toks := s'.toks } :=
    I.call (ch := []) (Un.laid k hp hn) (I.hok.laid k hp ⟨hlen, out.toList, c, vals_of_strs hS, hg⟩) (by rw [g]; exact I.bare) (fun _ m => nomatch m)
  have e : s' = { s with heap := s'.heap, gens := s'.gens, drawn := s'.drawn, toks := s'.toks } := by
    cases s'
    cases s
    cases o
    rfl
  rw [e]
  exact ⟨.ref p, _, J, rfl, q ys p hperm hsrt hn⟩
end
end Cs

set_option Elab.async false
set_option linter.all false
set_option maxRecDepth 100000
set_option maxHeartbeats 4000000
/-! {elt for target in iter if ..} where elt is a text. -/
namespace Cs
open PySem PySem.Spec PyProof.Rows L2

/-- one turn of such a comprehension: the text that comes is put into the set at D -/
def tScT (w : World) (wi : TI) (g : TG) (tt : TT) (te : TE) (vs : List Nat) : TE := fun σ H Q => wi σ H fun J H1 => ∀ D, H1 D = none →
  ∃ W : Nat → Nat → Hp → Prop, (∃ m, W 0 m (upd H1 D (TSetO w D []))) ∧ ∀ i m H, W i m H →
  (J.stop i H ∧ Q (.ref D) H) ∨ (J.go i H ∧ ∃ Nx : Hp → Prop, (∀ H', Nx H' → ∃ m', m' < m ∧ W (i + 1) m' H') ∧
    ∀ x H', J.yld i H x H' → g x (wipe σ vs) H' fun σ2 H2 => wipe σ2 vs = wipe σ vs ∧ tt σ2 H2 fun b H3 =>
    if b = true then te σ2 H3 fun y H4 => ∃ (z : Str) (zs : List Str), y = .str z ∧ H4 D = some (TSetO w D zs) ∧ zs.length + 1 < scanBound ∧ Nx (upd H4 D (TSetO w D (addT zs z))) else Nx H3)
section
variable {X : Cx}
theorem scT_core {pins : List (Addr × Obj)} {s : Shared} {σ : L2.St} {H : Hp} {Q : VK} {elt tg iter : Expr} {ifs : List Expr} {scope : Scope} {own : List (PySem.Str × Nat)} {pos pos' : Pos}
    {wi : TI} {g : TG} {tt : TT} {te : TE} {use : Option (Value → Sem Unit)} {Qf : Value → Shared → Prop}
    (hc : X.calm = true) (hN : X.N.Nodup) (I : Inv X pins σ H s) (hi : PI X tg iter wi) (ok : BlkOk X.N X.env.scope scope own)
    (hg : ∀ (s : Shared) (H : Hp) (C : Addr) (cl : List (PySem.Str × Addr)) (fp : List Addr), PG (X.blk s H scope (compEnvC scope cl C X.env) fp) tg g)
    (ht : ∀ (s : Shared) (H : Hp) (C : Addr) (cl : List (PySem.Str × Addr)) (fp : List Addr), PTs (X.blk s H scope (compEnvC scope cl C X.env) fp) ifs tt)
    (he : ∀ (s : Shared) (H : Hp) (C : Addr) (cl : List (PySem.Str × Addr)) (fp : List Addr), PE (X.blk s H scope (compEnvC scope cl C X.env) fp) elt te)
    (hs : ∀ x, foldedSetIterable iter X.env x = pure x) (h : tScT X.w wi g tt te (own.map (·.2)) σ H Q)
    (hRR : ∀ D C s' m H', Inv X pins σ H' s' → Q (.ref D) H' → s'.heap.Ns C m → FpOk X pins H' C → compPost (model X.prog X.w) X.A X.xe use Qf (.ref D) C (.ok .next) s') :
    wpAny (model X.prog X.w) X.A (comprehension (.SetComp elt [⟨tg, iter, ifs, 0⟩] scope pos) scope X.env pos' (newSet (.type "set")) false (eval iter X.env) use) Qf X.xe s := by
  have cells : ∀ y ∈ scope.names, y.2 = .free → ∃ c, X.env.cells.lookup y.1 = some c := fun y hy e => (ok.free y hy e).elim (fun k => I.ok.has _ (.inl k)) fun k => I.ok.has _ (.inr k)
  refine wpAny_comprehension_free (use := use) rfl hs (closure_ok cells) ok.kind (fun y hy e => by rw [ok.uniq y hy, e]) (thn (hi.run pins s σ H _ I h) fun xv sA hx => thn hx fun itv sB hB => ?_)
  obtain ⟨it, fp, tn, J, HB, e, IB, T, stB, fB, q⟩ := hB
  subst e
  refine PpSet.newSet_ok (newEnv_comp ?_)
  generalize hD : sB.heap.objs.size = D
  obtain ⟨W, ⟨m0, w0⟩, turn⟩ := q D (IB.hok.fresh (Nat.le_of_eq hD))
  generalize hsC : ({ sB with heap := sB.heap.push { cls := .type "set", dict := none, data := .set #[] 0 (.fresh 0 0 (!X.w.params.followText "set-order")) } } : Shared) = sC
  have hpC : sC.heap = sB.heap.push { cls := .type "set", dict := none, data := .set #[] 0 (.fresh 0 0 (!X.w.params.followText "set-order")) } := by rw [← hsC]
  generalize hHC : upd HB D (TSetO X.w D []) = HC at w0
  have IC : Inv X pins σ HC sC := by
    rw [← hsC, ← hHC]
    refine IB.laid (t' := sB.toks) (fun b o e => Heap.get?_push_of_some _ e) (Nat.le_of_eq hD) ?_
    rw [← hD]
    exact tsetO_new (tset_fresh X.w)
  have below : ∀ b ∈ fp, b < sB.heap.objs.size := fun b hb => (T.obj _ _ stB b hb).elim fun o z => Heap.lt_size z.1
  have fC : ∀ b ∈ fp, FpOk X pins HC b ∧ b < sC.heap.objs.size := fun b hb => by
    have lt := below b hb
    refine ⟨⟨?_, (fB b hb).2⟩, by rw [hpC, Heap.size_push]; exact Nat.lt_succ_of_lt lt⟩
    rw [← hHC, upd_ne (by rw [← hD]; exact Nat.ne_of_lt lt)]
    exact (fB b hb).1
  have stC : tn 0 sC.heap := T.keep _ _ _ stB fun b _ o e => by rw [hpC]; exact Heap.get?_push_of_some _ e
  have IK := block_start IC ok hN fC
  show codeAny _ _ (.compStart (.SetComp elt [⟨tg, iter, ifs, 0⟩] scope pos) 0 (.ref it) (.ref D) (compEnvC scope (cellsFrom (sC.heap.objs.size + 1) scope.names (cloFrom X.env.cells scope.names [])) sC.heap.objs.size X.env))
    (compPost (model X.prog X.w) X.A X.xe use Qf (.ref D) sC.heap.objs.size) { sC with heap := pushCells (sC.heap.push { cls := .type "dict", data := .dict #[] }) scope.names }
  generalize cellsFrom (sC.heap.objs.size + 1) scope.names (cloFrom X.env.cells scope.names []) = cl at IK ⊢
  have pg := hg sC HC sC.heap.objs.size cl fp
  have pt := ht sC HC sC.heap.objs.size cl fp
  have pe := he sC HC sC.heap.objs.size cl fp
  have nC : ∀ b ∈ fp, HC b = none := fun b hb => (fC b hb).1.1
  generalize hce : compEnvC scope cl sC.heap.objs.size X.env = ce at IK pg pt pe ⊢
  have locals : ce.locals = sC.heap.objs.size := by subst hce; rfl
  generalize hsK : ({ sC with heap := pushCells (sC.heap.push { cls := .type "dict", data := .dict #[] }) scope.names } : Shared) = sK at IK ⊢
  have stK : tn 0 sK.heap := T.keep _ _ _ stC fun b _ o e => by rw [← hsK]; exact pushCells_keeps _ _ _ _ (Heap.get?_push_of_some _ e)
  have stand : ∀ {σ' : L2.St} {H' : Hp} {s' : Shared}, Inv (X.blk sC HC scope ce fp) [] σ' H' s' → (∀ b ∈ fp, H' b = none) → ∀ b ∈ fp, FpOk (X.blk sC HC scope ce fp) [] H' b := fun {σ' H' s'} I' hn b hb =>
    ⟨hn b hb, (I'.ok.exf b hb).1, I'.ok.exfs b hb, .inl hb, fun x c e => (I'.ok.exf b hb).2 x c e, fun p hp => absurd (show p ∈ ([] : List (Addr × Obj)) ++ [] from hp) (by simp)⟩
  have loop : codeAny (model X.prog X.w) X.A (.compLoop (.SetComp elt [⟨tg, iter, ifs, 0⟩] scope pos) 0 (.ref it) (.ref D) ce) (compPost (model X.prog X.w) X.A X.xe use Qf (.ref D) sC.heap.objs.size) sK := by
    refine PpSet.compLoopS_any (fun n s' => ∃ i H', Inv (X.blk sC HC scope ce fp) [] (wipe σ (own.map (·.2))) H' s' ∧ tn i s'.heap ∧ (∀ b ∈ fp, H' b = none) ∧ W i n H') ?_ m0 ⟨0, HC, IK, stK, nC, w0⟩
    rintro n sL ⟨i, HL, IL, stL, nL, wL⟩
    rcases turn i n HL wL with ⟨stop, qq⟩ | ⟨go, Nx, hNx, step⟩
    · refine thnF (T.done (X.blk sC HC scope ce fp) rfl rfl rfl hc i [] sL _ HL (fun _ _ => False) IL (stand IL nL) stL stop) fun r sM ⟨hr, IM⟩ => ?_
      subst hr
      have IX : Inv X pins σ HL sM := IC.call' (ch := fp) IM.os IM.base IM.hok IM.bare fun b hb => ⟨(fC b hb).1.2.2.2.1, (fC b hb).1.2.1, (fC b hb).1.2.2.2.2.1, (fC b hb).1.2.2.2.2.2⟩
      have nl : HL sC.heap.objs.size = none := by
        have z : HL ce.locals = none := IM.free
        rw [locals] at z
        exact z
      obtain ⟨m, hn, _⟩ := IM.loc
      have hn : sM.heap.Ns ce.locals m := hn
      rw [locals] at hn
      exact hRR D sC.heap.objs.size sM m HL IX qq hn (IC.fpOk (Nat.le_refl _) nl)
    · refine thnF (T.item (X.blk sC HC scope ce fp) rfl rfl rfl hc i [] sL _ HL (fun _ _ => False) IL (stand IL nL) stL go) fun r sM ⟨u, hr, hM⟩ => ?_
      subst hr
      refine thnF hM fun _ sN ⟨x, HN, IN, rN, yN, stN, nN⟩ => ?_
      have INp := IN.pinned (stand IN nN) (T.obj _ _ stN)
      refine thnF (pg.run _ sN _ HN x u _ INp rN (step x HN yN)) fun _ sO ⟨σO, HO_, IO_, hwO, qO⟩ => ?_
      refine thnF (pt.run _ sO σO HO_ _ IO_ qO) fun b sP ⟨HP, IP, qP⟩ => ?_
      have fin : ∀ {s' : Shared} {H' : Hp}, Inv (X.blk sC HC scope ce fp) ([] ++ pinsAt fp sN.heap) σO H' s' → Nx H' →
          ∃ m, m < n ∧ ∃ i H', Inv (X.blk sC HC scope ce fp) [] (wipe σ (own.map (·.2))) H' s' ∧ tn i s'.heap ∧ (∀ b ∈ fp, H' b = none) ∧ W i m H' := fun {s' H'} I' nx => by
        obtain ⟨m', hm, w'⟩ := hNx H' nx
        have kept : ∀ b ∈ fp, ∀ o, sN.heap.get? b = some o → s'.heap.get? b = some o ∧ H' b = none := fun b hb o e =>
          let z := I'.pin (b, o) (List.mem_append_right _ (List.mem_append_right _ (mem_pinsAt hb e)))
          ⟨z.1, z.2.1⟩
        refine ⟨m', hm, i + 1, H', (I'.unpinned (pins := [])).weak (by rw [← hwO, wipe_length]) (fun j v e => ?_), T.keep _ _ _ stN fun b hb o e => (kept b hb o e).1, fun b hb => ?_, w'⟩
        · rw [← hwO] at e
          exact (wipe_some e).1
        · exact (T.obj _ _ stN b hb).elim fun o z => (kept b hb o z.1).2
      cases b with
      | false =>
        simp only [Bool.false_eq_true, if_false] at qP ⊢
        exact fin IP qP
      | true =>
        simp only [if_true] at qP ⊢
        refine thnF (pe.run _ sP σO HP _ IP qP) fun v sQ ⟨yv, HQ, IQ, rQ, z, zs, ey, hDQ, hzQ, nx⟩ => ?_
        subst ey
        obtain ⟨tk, rfl⟩ : ∃ tk, v = Value.str z tk := rQ
        exact tsetO_add (X := X.blk sC HC scope ce fp) IQ hDQ hzQ fun sR IR => fin IR nx
  exact PpSet.codeAny_compStart_set loop (T.self X.A 0 _ _ _ stK loop)
theorem pe_scT {elt tg iter : Expr} {ifs : List Expr} {scope : Scope} {own : List (PySem.Str × Nat)} {pos : Pos} {wi : TI} {g : TG} {tt : TT} {te : TE} (hc : X.calm = true) (hN : X.N.Nodup) (hi : PI X tg iter wi)
    (ok : BlkOk X.N X.env.scope scope own)
    (hg : ∀ (s : Shared) (H : Hp) (C : Addr) (cl : List (PySem.Str × Addr)) (fp : List Addr), PG (X.blk s H scope (compEnvC scope cl C X.env) fp) tg g)
    (ht : ∀ (s : Shared) (H : Hp) (C : Addr) (cl : List (PySem.Str × Addr)) (fp : List Addr), PTs (X.blk s H scope (compEnvC scope cl C X.env) fp) ifs tt)
    (he : ∀ (s : Shared) (H : Hp) (C : Addr) (cl : List (PySem.Str × Addr)) (fp : List Addr), PE (X.blk s H scope (compEnvC scope cl C X.env) fp) elt te)
    (hs : ∀ x, foldedSetIterable iter X.env x = pure x := by intro _; rfl) : PE X (.SetComp elt [⟨tg, iter, ifs, 0⟩] scope pos) (tScT X.w wi g tt te (own.map (·.2))) := by
  refine ⟨fun pins s σ H Q I h => ?_⟩
  rw [PpSet.eval_SetComp]
  refine scT_core hc hN I hi ok hg ht he hs h fun D C s' m H' I' q hn f => ⟨m, hn, fun h'' sb => ?_⟩
  obtain ⟨f0, f1, f2, f3, f4, f5⟩ := f
  exact ⟨.ref D, H', I'.turned (t' := s'.toks) (fun b o hb e => (sb.2 b hb).trans e) f0 f1 f3 f4 f5, rfl, q⟩
end
/-- the texts of a list, each once, by first place -/
def once (zs : List Str) : List Str := zs.foldl addT []
theorem once_snoc (zs : List Str) (z : Str) : once (zs ++ [z]) = addT (once zs) z := by
  unfold once
  rw [List.foldl_append]
  rfl
theorem once_len (zs : List Str) : (once zs).length ≤ zs.length := by
  have h : ∀ (l acc : List Str), (l.foldl addT acc).length ≤ acc.length + l.length := by
    intro l
    induction l with
    | nil => intro acc; exact Nat.le_refl _
    | cons z l ih =>
      intro acc
      have e := ih (addT acc z)
      have f : (addT acc z).length ≤ acc.length + 1 := by
        unfold addT
        split
        · omega
        · simp
      show (l.foldl addT (addT acc z)).length ≤ _
      rw [List.length_cons]
      omega
  have := h zs []
  simpa [once] using this
theorem once_mem (zs : List Str) (y : Str) : y ∈ once zs ↔ y ∈ zs := by
  have h : ∀ (l acc : List Str), y ∈ l.foldl addT acc ↔ y ∈ acc ∨ y ∈ l := by
    intro l
    induction l with
    | nil => intro acc; simp
    | cons z l ih =>
      intro acc
      show y ∈ l.foldl addT (addT acc z) ↔ _
      rw [ih]
      unfold addT
      split
      · rename_i m
        simp only [List.mem_cons]
        constructor
        · rintro (a | a)
          · exact .inl a
          · exact .inr (.inr a)
        · rintro (a | a | a)
          · exact .inl a
          · exact .inl (a ▸ m)
          · exact .inr a
      · simp only [List.mem_append, List.mem_cons, List.not_mem_nil, or_false, or_assoc]
  simpa [once] using h zs []
theorem once_nodup (zs : List Str) : (once zs).Nodup := by
  have h : ∀ (l acc : List Str), acc.Nodup → (l.foldl addT acc).Nodup := by
    intro l
    induction l with
    | nil => intro acc h; exact h
    | cons z l ih =>
      intro acc h
      refine ih _ ?_
      unfold addT
      split
      · exact h
      · rename_i m
        exact nd_snoc h m
  exact h zs [] .nil
end Cs

set_option Elab.async false
set_option linter.all false
set_option maxRecDepth 100000
set_option maxHeartbeats 4000000
/-! Plain laws: texts in order, tables of words and integers, what is told of a table. -/
namespace Cs
open PySem L2 PyProof.Rows
/-! ### the order of texts -/
def SLt (a b : Str) : Prop := a.cps.toList < b.cps.toList
theorem slt_irrefl (a : Str) : ¬ SLt a a := List.lt_irrefl _
theorem slt_trans {a b c : Str} (h : SLt a b) (k : SLt b c) : SLt a c := List.lt_trans h k
theorem str_ext {a b : Str} (h : a.cps.toList = b.cps.toList) : a = b := by
  cases a
  cases b
  congr
  exact Array.toList_inj.mp h
theorem slt_total {a b : Str} (h : ¬ SLt b a) (n : a ≠ b) : SLt a b := by
  have h1 : a.cps.toList ≤ b.cps.toList := List.not_lt.mp h
  apply Classical.byContradiction
  intro q
  exact n (str_ext (List.le_antisymm h1 (List.not_lt.mp q)))
theorem slt_of_le_lt {a b c : Str} (h : ¬ SLt b a) (k : SLt b c) : SLt a c := List.lt_of_le_of_lt (List.not_lt.mp h) k
/-- ascending, none twice -/
def Asc (zs : List Str) : Prop := zs.Pairwise SLt
theorem rising_pw : ∀ (r : List Str) (p : Str), risingS p r = true → (p :: r).Pairwise (fun a b => ¬ SLt b a)
  | [], p, _ => List.pairwise_singleton _ _
  | x :: r, p, h => by
    have h : (!PySem.Spec.ltCps x.cps.toList p.cps.toList && risingS x r) = true := h
    rw [Bool.and_eq_true, ltCps_eq] at h
    have ih := rising_pw r x h.2
    have h1 : ¬ SLt x p := by
      have := h.1
      intro q
      rw [decide_eq_true (show x.cps.toList < p.cps.toList from q)] at this
      cases this
    refine List.pairwise_cons.mpr ⟨fun y hy => ?_, ih⟩
    rcases List.mem_cons.mp hy with e | e
    · rw [e]
      exact h1
    · have h2 := (List.pairwise_cons.mp ih).1 y e
      exact fun q => h1 (slt_of_le_lt h2 q)
theorem sorted_pw : ∀ {zs : List Str}, sortedS zs = true → zs.Pairwise (fun a b => ¬ SLt b a)
  | [], _ => .nil
  | x :: r, h => rising_pw r x h
theorem asc_of_sorted {zs : List Str} (h : sortedS zs = true) (n : zs.Nodup) : Asc zs := by
  have a := sorted_pw h
  have b : zs.Pairwise (fun a b => ¬ SLt b a ∧ a ≠ b) := a.and n
  exact b.imp fun h => slt_total h.1 h.2
theorem Asc.nodup {zs : List Str} (h : Asc zs) : zs.Nodup := h.imp fun {a b} (q : SLt a b) (e : a = b) => slt_irrefl a (by rw [← e] at q; exact q)
/-- ascending lists with the same members are one -/
theorem asc_eq : ∀ {xs ys : List Str}, Asc xs → Asc ys → (∀ z, z ∈ xs ↔ z ∈ ys) → xs = ys
  | [], [], _, _, _ => rfl
  | [], y :: ys, _, _, h => absurd ((h y).mpr List.mem_cons_self) (by simp)
  | x :: xs, [], _, _, h => absurd ((h x).mp List.mem_cons_self) (by simp)
  | x :: xs, y :: ys, a, b, h => by
    obtain ⟨a1, a2⟩ := List.pairwise_cons.mp a
    obtain ⟨b1, b2⟩ := List.pairwise_cons.mp b
    have e : x = y := by
      rcases List.mem_cons.mp ((h x).mp List.mem_cons_self) with e | e
      · exact e
      · rcases List.mem_cons.mp ((h y).mpr List.mem_cons_self) with f | f
        · exact f.symm
        · exact absurd (slt_trans (a1 y f) (b1 x e)) (slt_irrefl x)
    subst e
    rw [asc_eq a2 b2 fun z => ?_]
    constructor
    · intro m
      rcases List.mem_cons.mp ((h z).mp (List.mem_cons_of_mem _ m)) with e | e
      · exact absurd (e ▸ a1 z m) (slt_irrefl _)
      · exact e
    · intro m
      rcases List.mem_cons.mp ((h z).mpr (List.mem_cons_of_mem _ m)) with e | e
      · exact absurd (e ▸ b1 z m) (slt_irrefl _)
      · exact e
/-! ### tables -/
abbrev Tab := List (Str × Int)
def keys (t : Tab) : List Str := t.map (·.1)
def look (t : Tab) (z : Str) : Option Int := (t.find? fun q => decide (q.1 = z)).map (·.2)
def val (t : Tab) (z : Str) : Int := (look t z).getD 0
def put (t : Tab) (z : Str) (n : Int) : Tab := if (t.any fun q => decide (q.1 = z)) = true then t.map (fun q => if q.1 = z then (q.1, n) else q) else t ++ [(z, n)]
def drop (t : Tab) (z : Str) : Tab := t.filter fun q => decide (q.1 ≠ z)
theorem look_none : ∀ {t : Tab} {z : Str}, z ∉ keys t → look t z = none
  | [], _, _ => rfl
  | q :: t, z, h => by
    have h1 : q.1 ≠ z := fun e => h (by rw [← e]; exact List.mem_cons_self)
    have h2 : z ∉ keys t := fun m => h (List.mem_cons_of_mem _ m)
    have ih := look_none h2
    unfold look at ih ⊢
    rw [List.find?_cons, decide_eq_false h1]
    exact ih
theorem look_some : ∀ {t : Tab} {z : Str}, z ∈ keys t → ∃ n, look t z = some n ∧ (z, n) ∈ t
  | [], _, h => by simp [keys] at h
  | q :: t, z, h => by
    by_cases e : q.1 = z
    · refine ⟨q.2, ?_, ?_⟩
      · unfold look
        rw [List.find?_cons, decide_eq_true e]
        rfl
      · rw [← e]
        exact List.mem_cons_self
    · have h2 : z ∈ keys t := (List.mem_cons.mp h).resolve_left fun q => e q.symm
      obtain ⟨n, a, b⟩ := look_some h2
      refine ⟨n, ?_, List.mem_cons_of_mem _ b⟩
      unfold look at a ⊢
      rw [List.find?_cons, decide_eq_false e]
      exact a
theorem look_mem {t : Tab} (nd : (keys t).Nodup) {z : Str} {n : Int} (h : (z, n) ∈ t) : look t z = some n := by
  induction t with
  | nil => cases h
  | cons q t ih =>
    obtain ⟨n1, n2⟩ := List.nodup_cons.mp (show (q.1 :: keys t).Nodup from nd)
    rcases List.mem_cons.mp h with e | e
    · subst e
      unfold look
      rw [List.find?_cons, decide_eq_true rfl]
      rfl
    · have h1 : q.1 ≠ z := fun f => n1 (f ▸ List.mem_map.mpr ⟨_, e, rfl⟩)
      have := ih n2 e
      unfold look at this ⊢
      rw [List.find?_cons, decide_eq_false h1]
      exact this
theorem any_keys (t : Tab) (z : Str) : (t.any fun q => decide (q.1 = z)) = decide (z ∈ keys t) := by
  rw [Bool.eq_iff_iff, List.any_eq_true, decide_eq_true_eq]
  constructor
  · rintro ⟨q, m, e⟩
    exact List.mem_map.mpr ⟨q, m, of_decide_eq_true e⟩
  · intro m
    obtain ⟨q, m, e⟩ := List.mem_map.mp m
    exact ⟨q, m, decide_eq_true e⟩
theorem keys_put (t : Tab) (z : Str) (n : Int) : keys (put t z n) = if z ∈ keys t then keys t else keys t ++ [z] := by
  unfold put
  rw [any_keys]
  by_cases h : z ∈ keys t
  · rw [if_pos (decide_eq_true h), if_pos h]
    unfold keys
    rw [List.map_map]
    apply List.map_congr_left
    intro q _
    simp only [Function.comp]
    split <;> rfl
  · rw [if_neg (by simpa using h), if_neg h]
    unfold keys
    rw [List.map_append]
    rfl
theorem mem_keys_put {t : Tab} {z y : Str} {n : Int} : y ∈ keys (put t z n) ↔ y ∈ keys t ∨ y = z := by
  rw [keys_put]
  split
  · rename_i h
    exact ⟨.inl, fun q => q.elim id fun e => e ▸ h⟩
  · rw [List.mem_append, List.mem_singleton]
theorem nd_put {t : Tab} {z : Str} {n : Int} (h : (keys t).Nodup) : (keys (put t z n)).Nodup := by
  rw [keys_put]
  split
  · exact h
  · rename_i m
    exact nd_snoc h m
theorem mem_put {t : Tab} {z y : Str} {n m : Int} (h : (y, m) ∈ put t z n) : (y = z ∧ m = n) ∨ (y ≠ z ∧ (y, m) ∈ t) := by
  unfold put at h
  rw [any_keys] at h
  by_cases k : z ∈ keys t
  · rw [if_pos (decide_eq_true k)] at h
    obtain ⟨q, hq, e⟩ := List.mem_map.mp h
    by_cases c : q.1 = z
    · rw [if_pos c] at e
      left
      exact ⟨by rw [← c]; exact (congrArg Prod.fst e).symm, (congrArg Prod.snd e).symm⟩
    · rw [if_neg c] at e
      right
      subst e
      exact ⟨c, hq⟩
  · rw [if_neg (by simpa using k)] at h
    rcases List.mem_append.mp h with a | a
    · right
      exact ⟨fun e => k (e ▸ List.mem_map.mpr ⟨_, a, rfl⟩), a⟩
    · left
      have := List.mem_singleton.mp a
      exact ⟨congrArg Prod.fst this, congrArg Prod.snd this⟩
theorem look_put {t : Tab} {z y : Str} {n : Int} (h : (keys t).Nodup) : look (put t z n) y = if y = z then some n else look t y := by
  by_cases k : y ∈ keys (put t z n)
  · obtain ⟨m, a, b⟩ := look_some k
    rw [a]
    rcases mem_put b with ⟨e, f⟩ | ⟨e, f⟩
    · rw [if_pos e, f]
    · rw [if_neg e, look_mem h f]
  · rw [look_none k]
    have k2 : ¬ (y ∈ keys t ∨ y = z) := fun q => k (mem_keys_put.mpr q)
    rw [if_neg fun e => k2 (.inr e), look_none fun e => k2 (.inl e)]
theorem val_put {t : Tab} {z y : Str} {n : Int} (h : (keys t).Nodup) : val (put t z n) y = if y = z then n else val t y := by
  unfold val
  rw [look_put h]
  split <;> rfl
theorem keys_drop (t : Tab) (z : Str) : keys (drop t z) = (keys t).filter fun y => decide (y ≠ z) := by
  unfold keys drop
  rw [List.filter_map]
  rfl
theorem nd_drop {t : Tab} {z : Str} (h : (keys t).Nodup) : (keys (drop t z)).Nodup := by
  rw [keys_drop]
  exact h.filter _
theorem look_drop {t : Tab} {z y : Str} (h : (keys t).Nodup) : look (drop t z) y = if y = z then none else look t y := by
  by_cases k : y ∈ keys (drop t z)
  · obtain ⟨m, a, b⟩ := look_some k
    have c := List.mem_filter.mp b
    have d : y ≠ z := of_decide_eq_true c.2
    rw [a, if_neg d, look_mem h c.1]
  · rw [look_none k]
    by_cases e : y = z
    · rw [if_pos e]
    · rw [if_neg e, look_none]
      intro m
      apply k
      rw [keys_drop]
      exact List.mem_filter.mpr ⟨m, decide_eq_true e⟩
theorem val_drop {t : Tab} {z y : Str} (h : (keys t).Nodup) : val (drop t z) y = if y = z then 0 else val t y := by
  unfold val
  rw [look_drop h]
  split <;> rfl
theorem len_put (t : Tab) (z : Str) (n : Int) : (put t z n).length ≤ t.length + 1 := by
  unfold put
  split
  · rw [List.length_map]
    omega
  · rw [List.length_append]
    exact Nat.le_refl _
/-! ### what is told of a table: the words ascending whose integer is not 0 -/
/-- ws holds the table's words, ascending -/
def toldBy (t : Tab) (ws : List Str) : Tab := (ws.filter fun z => decide (val t z ≠ 0)).map fun z => (z, val t z)
/-- l is what is told of a table with these values -/
structure Told (f : Str → Int) (l : Tab) : Prop where
  asc : Asc (keys l)
  mem : ∀ z n, (z, n) ∈ l ↔ n = f z ∧ n ≠ 0
theorem Told.keys_iff {f : Str → Int} {l : Tab} (h : Told f l) (z : Str) : z ∈ keys l ↔ f z ≠ 0 := by
  constructor
  · intro m
    obtain ⟨⟨y, n⟩, hm, e⟩ := List.mem_map.mp m
    have e : y = z := e
    subst e
    obtain ⟨a, b⟩ := (h.mem _ _).mp hm
    rw [← a]
    exact b
  · intro q
    exact List.mem_map.mpr ⟨(z, f z), (h.mem _ _).mpr ⟨rfl, q⟩, rfl⟩
theorem Told.form {f : Str → Int} {l : Tab} (h : Told f l) : l = (keys l).map fun z => (z, f z) := by
  unfold keys
  rw [List.map_map]
  conv => lhs; rw [← List.map_id l]
  apply List.map_congr_left
  intro q m
  have := ((h.mem q.1 q.2).mp m).1
  show q = (q.1, f q.1)
  rw [← this]
theorem told_eq {f g : Str → Int} {l m : Tab} (a : Told f l) (b : Told g m) (h : ∀ z, f z = g z) : l = m := by
  have e : f = g := funext h
  subst e
  have k : keys l = keys m := asc_eq a.asc b.asc fun z => by rw [a.keys_iff, b.keys_iff]
  rw [a.form, b.form, k]
theorem told_of {t : Tab} {ws : List Str} (nd : (keys t).Nodup) (ha : Asc ws) (hm : ∀ z, z ∈ ws ↔ z ∈ keys t) : Told (val t) (toldBy t ws) := by
  have ek : keys (toldBy t ws) = ws.filter fun z => decide (val t z ≠ 0) := by
    unfold keys toldBy
    rw [List.map_map]
    exact List.map_id _
  refine ⟨?_, fun z n => ?_⟩
  · rw [ek]
    exact List.Pairwise.filter _ ha
  · unfold toldBy
    rw [List.mem_map]
    constructor
    · rintro ⟨y, m, e⟩
      have e1 : y = z := congrArg Prod.fst e
      have e2 : val t y = n := congrArg Prod.snd e
      subst e1
      subst e2
      exact ⟨rfl, of_decide_eq_true (List.mem_filter.mp m).2⟩
    · rintro ⟨rfl, q⟩
      refine ⟨z, List.mem_filter.mpr ⟨?_, decide_eq_true q⟩, rfl⟩
      rw [hm]
      apply Classical.byContradiction
      intro k
      exact q (by unfold val; rw [look_none k]; rfl)
/-! ### a table as a dict's pairs -/
def tv (t : Tab) : List (Key × V) := t.map fun q => (Sum.inr q.1, V.int q.2)
theorem tv_len (t : Tab) : (tv t).length = t.length := List.length_map _
theorem tv_val (t : Tab) (z : Str) : valV (tv t) (Sum.inr z) = (look t z).map V.int := by
  unfold valV tv look
  induction t with
  | nil => rfl
  | cons q t ih =>
    rw [List.map_cons, List.find?_cons, List.find?_cons]
    by_cases e : q.1 = z
    · rw [decide_eq_true e, decide_eq_true (show (Sum.inr q.1 : Key) = Sum.inr z by rw [e])]
      rfl
    · rw [decide_eq_false e, decide_eq_false (show ¬ (Sum.inr q.1 : Key) = Sum.inr z from fun f => e (Sum.inr.inj f))]
      exact ih
theorem tv_any (t : Tab) (z : Str) : ((tv t).any fun kv => decide (kv.1 = Sum.inr z)) = t.any fun q => decide (q.1 = z) := by
  unfold tv
  rw [List.any_map]
  congr 1
  funext q
  exact key_rr q.1 z
theorem tv_put (t : Tab) (z : Str) (n : Int) : putK (tv t) (Sum.inr z) (V.int n) = tv (put t z n) := by
  unfold putK put
  rw [tv_any]
  split
  · unfold tv
    rw [List.map_map, List.map_map]
    apply List.map_congr_left
    intro q _
    simp only [Function.comp]
    by_cases e : q.1 = z
    · rw [if_pos e, if_pos (show (Sum.inr q.1 : Key) = Sum.inr z by rw [e])]
    · rw [if_neg e, if_neg (show ¬ (Sum.inr q.1 : Key) = Sum.inr z from fun f => e (Sum.inr.inj f))]
  · unfold tv
    rw [List.map_append]
    rfl
theorem tv_drop (t : Tab) (z : Str) : dropK (tv t) (Sum.inr z) = tv (drop t z) := by
  unfold dropK drop tv
  rw [List.filter_map]
  congr 1
  apply List.filter_congr
  intro q _
  simp only [Function.comp]
  by_cases e : q.1 = z
  · simp [e]
  · have : ¬ (Sum.inr q.1 : Key) = Sum.inr z := fun f => e (Sum.inr.inj f)
    simp [e, this]
/-- pairs added up word by word -/
def addUp (ps : List (Str × Int)) : Tab := ps.foldl (fun t q => put t q.1 (val t q.1 + q.2)) []
/-- the integers of a word in pairs -/
def sumOf (ps : List (Str × Int)) (z : Str) : Int := ((ps.filter fun q => decide (q.1 = z)).map (·.2)).sum
theorem addUp_snoc (ps : List (Str × Int)) (q : Str × Int) : addUp (ps ++ [q]) = put (addUp ps) q.1 (val (addUp ps) q.1 + q.2) := by
  unfold addUp
  rw [List.foldl_append]
  rfl
theorem snoc_rec {α : Type} {C : List α → Prop} (h0 : C []) (h1 : ∀ l a, C l → C (l ++ [a])) : ∀ l, C l := by
  intro l
  have : ∀ n (l : List α), l.length = n → C l := by
    intro n
    induction n with
    | zero => intro l hl; rw [List.length_eq_zero_iff.mp hl]; exact h0
    | succ n ih =>
      intro l hl
      have hne : l ≠ [] := by intro e; rw [e] at hl; cases hl
      rw [← List.dropLast_concat_getLast hne]
      exact h1 _ _ (ih _ (by rw [List.length_dropLast, hl]; rfl))
  exact this _ l rfl
theorem addUp_nd : ∀ ps, (keys (addUp ps)).Nodup := snoc_rec List.nodup_nil fun l a h => by
  rw [addUp_snoc]
  exact nd_put h
theorem addUp_val (z : Str) : ∀ ps, val (addUp ps) z = sumOf ps z := snoc_rec rfl fun l a h => by
  rw [addUp_snoc, val_put (addUp_nd l)]
  unfold sumOf at h ⊢
  rw [List.filter_append, List.map_append, List.sum_append]
  by_cases e : a.1 = z
  · rw [if_pos e.symm]
    subst e
    rw [h]
    simp
  · rw [if_neg fun q => e q.symm, h]
    simp [e]
theorem addUp_len : ∀ ps, (addUp ps).length ≤ ps.length := snoc_rec (Nat.le_refl _) fun l a h => by
  rw [addUp_snoc, List.length_append]
  exact Nat.le_trans (len_put _ _ _) (Nat.succ_le_succ h)
/-- without zeros -/
def noZero (t : Tab) : Tab := t.filter fun q => decide (q.2 ≠ 0)
theorem noZero_nd {t : Tab} (h : (keys t).Nodup) : (keys (noZero t)).Nodup := by
  unfold keys noZero
  exact List.Nodup.sublist ((List.filter_sublist).map _) h
theorem noZero_mem {t : Tab} {q : Str × Int} : q ∈ noZero t ↔ q ∈ t ∧ q.2 ≠ 0 := by
  unfold noZero
  rw [List.mem_filter, decide_eq_true_eq]
theorem noZero_val {t : Tab} (h : (keys t).Nodup) (z : Str) : val (noZero t) z = val t z := by
  unfold val
  by_cases k : z ∈ keys (noZero t)
  · obtain ⟨n, a, b⟩ := look_some k
    rw [a, look_mem h (noZero_mem.mp b).1]
  · rw [look_none k]
    by_cases m : z ∈ keys t
    · obtain ⟨n, a, b⟩ := look_some m
      rw [a]
      by_cases e : n = 0
      · rw [e]
        rfl
      · exact absurd (List.mem_map.mpr ⟨(z, n), noZero_mem.mpr ⟨b, e⟩, rfl⟩) k
    · rw [look_none m]
/-- a table as Counts hold it -/
structure Held (t : Tab) : Prop where
  nd : (keys t).Nodup
  nz : ∀ q ∈ t, q.2 ≠ 0
theorem Held.of {t : Tab} (h : (keys t).Nodup) : Held (noZero t) := ⟨noZero_nd h, fun q m => (noZero_mem.mp m).2⟩
theorem Held.keys_iff {t : Tab} (h : Held t) (z : Str) : z ∈ keys t ↔ val t z ≠ 0 := by
  unfold val
  constructor
  · intro m
    obtain ⟨n, a, b⟩ := look_some m
    rw [a]
    exact h.nz _ b
  · intro q
    apply Classical.byContradiction
    intro m
    rw [look_none m] at q
    exact q rfl
/-- the pairs of held counts, by their words ascending -/
theorem Held.told {t : Tab} (h : Held t) {ws : List Str} (ha : Asc ws) (hm : ∀ z, z ∈ ws ↔ z ∈ keys t) : Told (val t) (ws.map fun z => (z, val t z)) := by
  have := told_of h.nd ha hm
  unfold toldBy at this
  rw [List.filter_eq_self.mpr] at this
  · exact this
  · intro z m
    exact decide_eq_true ((h.keys_iff z).mp ((hm z).mp m))
end Cs

set_option Elab.async false
set_option linter.all false
set_option maxRecDepth 100000
set_option maxHeartbeats 4000000
/-! What an own class's special methods do: len(o), o[i], o[i] = v; classes called with a starred list. -/
namespace Cs
open PySem PySem.Spec PyProof.Rows L2
/-- a special method of the class at C -/
structure Spc (K : PySem.W.Frag) (C : Addr) (m : Str) (f : Addr) : Prop where
  at_ : PySem.W.findIn K (.ref C) m = some (some (.ref f))
  fn : PySem.W.isFn K (.ref f) = true
section
variable {X : Cx} {CX : CXT} {k i : Nat} {f C g : Addr} {fd : FuncData} {ps : List Str} {sp : Sp} {dvs : List V} {ds : List Value} {E : XK} {x m : Str} {e o : Expr} {es : List Expr} {te ta : TE} {t : TA} {p sp_ pos apos : Pos}
/-- a def run one level down -/
theorem run_fn1 {pins : List (Addr × Obj)} {σ : L2.St} {H : Hp} {s : Shared} {Q : VK} {us : List Value} {vs : List V} (F : FnOk X.prog X.w X.K X.mg X.base CX k f fd ps sp) (hr : Room (k + 1) X.A) (hb : Binds X.K fd ps []) (hx : Passes CX X E)
    (I : Inv X pins σ H s) (r : Vals vs us) (h : sp vs H Q E) : wpAny (model X.prog X.w) X.A.in1 (call (.ref f) us) (EP X pins σ Q) X.xe s := by
  have hl : us.length = ps.length := by rw [← r.length]; exact F.len _ _ _ _ h
  have hb' := hb s us I.kIn (by rw [List.append_nil]; exact hl)
  rw [List.append_nil] at hb'
  refine wpAny_call (codeAny_mono (F.run X.A.in1 X.stack s H ⟨us, []⟩ us vs Q E hr.in1 I.env0.in1 hb' r h) fun r s' hq => ?_)
  cases r with
  | error e => exact hx pins σ H s e s' I hq
  | ok fl =>
    cases fl with
    | ret u => exact I.after hq
    | next => exact False.elim hq
    | brk => exact False.elim hq
    | cont => exact False.elim hq
theorem ins_inst {pins : List (Addr × Obj)} {σ : L2.St} {H : Hp} {s : Shared} {a dx : Addr} {fs : List (Str × V)} (I : Inv X pins σ H s) (h : H a = some (.ins C dx fs)) : ∃ ox od, PySem.W.InstAt s.heap a ox C od ∧ ox.data = .plain := by
  obtain ⟨mA, O, _⟩ := ins_get I.hok h
  obtain ⟨od, J, _⟩ := O.look
  exact ⟨_, _, J, rfl⟩
/-- len(o) by an own __len__ -/
def rLenO (C : Addr) (sp : Sp) (E : XK) : List V → Hp → VK → Prop := fun xs H Q => ∃ a dx fs, xs = [.ref a] ∧ H a = some (.ins C dx fs) ∧ sp [.ref a] H (fun v H2 => ∃ n : Int, v = .int n ∧ (0 ≤ n ∧ n < 2 ^ 63) ∧ Q (.int n) H2) E
theorem call_lenO (c : Spc X.K C "__len__" f) (F : FnOk X.prog X.w X.K X.mg X.base CX k f fd ps sp) (hr : Room (k + 1) X.A) (hb : Binds X.K fd ps []) (hx : Passes CX X E) : CallR X (.builtin "len") (rLenO C sp E) := by
  intro pins s σ H xs us Q I r h
  obtain ⟨a, dx, fs, rfl, ha, q⟩ := h
  rw [Vals.ref1 r]
  obtain ⟨ox, od, J, _⟩ := ins_inst I ha
  obtain ⟨m, Fr⟩ := I.fr
  refine PySem.W.len_K Fr I.ok.mod.kin J c.at_ c.fn (wpAny_mono (run_fn1 (us := [.ref a]) (vs := [.ref a]) F hr hb hx I (.cons rfl .nil) q) (fun v s' z => ?_) fun _ _ z => z)
  obtain ⟨v0, H2, I2, rv, n, e, hn, q2⟩ := z
  subst e
  obtain ⟨tk, rfl⟩ := rv
  exact ⟨hn, .int n, H2, I2.tok _, ⟨_, rfl⟩, q2⟩
/-- o[i] = v by an own __setitem__ -/
def rSetO (C : Addr) (sp : Sp) (E : XK) : V → V → V → Hp → (Hp → Prop) → Prop := fun o i v H Q => ∃ a dx fs, o = .ref a ∧ H a = some (.ins C dx fs) ∧ sp [.ref a, i, v] H (fun _ H2 => Q H2) E
theorem set_own (c : Spc X.K C "__setitem__" f) (hq : PySem.W.noSeq X.K C = true) (F : FnOk X.prog X.w X.K X.mg X.base CX k f fd ps sp) (hr : Room k X.A) (hb : Binds X.K fd ps []) (hx : Passes CX X E) : PSet X (rSetO C sp E) := by
  intro pins s σ H o i v ov iv u Q I ro ri rv h
  obtain ⟨a, dx, fs, rfl, ha, q⟩ := h
  cases ro
  obtain ⟨ox, od, J, _⟩ := ins_inst I ha
  obtain ⟨m, Fr⟩ := I.fr
  refine PySem.W.ksp_setItem Fr I.ok.mod.kin J hq c.at_ c.fn ?_
  refine wpAny_mono (run_fn (us := [.ref a, iv, u]) (vs := [.ref a, i, v]) (dvs := []) F hr hb .nil hx I (.cons rfl (.cons ri (.cons rv .nil))) q) (fun v s' z => ?_) fun _ _ z => z
  obtain ⟨v0, H2, I2, _, q2⟩ := z
  exact ⟨H2, I2, q2⟩
/-- C(*y), C a class of the module -/
def tMkS (K : PySem.W.Frag) (C : Addr) (sp : Sp) (E : XK) (te : TE) : TE := fun σ H Q => te σ H fun y H1 => ∃ a xs, y = V.ref a ∧ (SqT K H1 a xs ∨ SqL K H1 a xs) ∧ ∀ x dx, H1 x = none → H1 dx = none → dx ≠ x →
  sp (V.ref x :: xs) (upd (upd H1 dx (.own x)) x (.ins C dx [])) (fun v H2 => v = .non ∧ Q (.ref x) H2) E
theorem pe_mkS (M : Mk X.K C f) (F : FnR X.prog X.w X.K X.mg X.base CX k f sp) (hr : Room (k + 1) X.A) (hg : Gl X x) (hm : X.mg x = some (.ref C)) (hx : Passes CX X E) (he : PE X e te) (hd : (x == ("__debug__" : Str)) = false := by decide)
    (hst : starEach [.Starred e sp_] X.env = [(true, eval e X.env)] := by rfl) : PE X (.Call (.Name x p) [.Starred e sp_] [] pos) (tMkS X.K C sp E te) := by
  refine ⟨fun pins s σ H Q I h => ?_⟩
  refine wpAny_Call_Name_kw (ld_glob I hg hm ?_ hd)
  refine PySem.W.callWith_S (h₀ := X.base) I.ok.mod.kin M.kp (thn (he.run pins s σ H _ I h) fun v s1 ⟨y, H1, I1, ry, a, xs, ey, hxs, q⟩ => ?_) hst
  subst ey
  obtain rfl : v = Value.ref a := ry
  exact StX.star_any I1 hxs fun us s2 I2 rv => ⟨I2.kIn, StX.run_makeR M F hr hx I2 rv q⟩
/-- c(*y), c a local name that holds the class -/
theorem pe_mkSL (M : Mk X.K C f) (F : FnR X.prog X.w X.K X.mg X.base CX k f sp) (hr : Room (k + 1) X.A) (hN : X.N[i]? = some x) (hv : Vis X.env.scope x) (hx : Passes CX X E) (he : PE X e te) (hdb : (x == ("__debug__" : Str)) = false := by decide)
    (hcd : (x == ("__classdict__" : Str)) = false := by decide) (hst : starEach [.Starred e sp_] X.env = [(true, eval e X.env)] := by rfl) :
    PE X (.Call (.Name x p) [.Starred e sp_] [] pos) (fun σ H Q => σ[i]? = some (some (.ref C)) ∧ tMkS X.K C sp E te σ H Q) := by
  refine ⟨fun pins s σ H Q I h => ?_⟩
  obtain ⟨hs, h⟩ := h
  refine wpAny_Call_Name_kw (thn ((pe_var (pos := p) hN hv hdb hcd).run pins s σ H (fun v H1 => v = .ref C ∧ H1 = H) I ⟨.ref C, hs, rfl, rfl⟩) fun u s0 ⟨v, H0, I0, r0, q0⟩ => ?_)
  obtain ⟨rfl, rfl⟩ := q0
  cases r0
  refine PySem.W.callWith_S (h₀ := X.base) I.ok.mod.kin M.kp (thn (he.run pins s0 σ _ _ I0 h) fun v s1 ⟨y, H1, I1, ry, a, xs, ey, hxs, q⟩ => ?_) hst
  subst ey
  obtain rfl : v = Value.ref a := ry
  exact StX.star_any I1 hxs fun us s2 I2 rv => ⟨I2.kIn, StX.run_makeR M F hr hx I2 rv q⟩
/-- C(), by a positional promise -/
theorem pe_mkR0 (M : Mk X.K C f) (F : FnR X.prog X.w X.K X.mg X.base CX k f sp) (hr : Room (k + 1) X.A) (hg : Gl X x) (hm : X.mg x = some (.ref C)) (hx : Passes CX X E) (hdb : (x == ("__debug__" : Str)) = false := by decide) :
    PE X (.Call (.Name x p) [] [] pos) (StX.tMakeR C sp E tNil) := by
  refine ⟨fun pins s σ H Q I h => ?_⟩
  refine wpAny_Call_Name_kw (ld_glob I hg hm ?_ hdb)
  exact PySem.W.callWith_K0 I.kIn M.kp (StX.run_makeR (us := []) M F hr hx I .nil h)
/-- o.m() by a positional promise -/
theorem pe_methR0 {pl : Sem Bool} (he : PE X o ta) (c : Cls X.K C) (hm : Meth X.K C m f) (F : FnR X.prog X.w X.K X.mg X.base CX k f sp) (hr : Room k X.A) (hx : Passes CX X E)
    (ht : eval (.Call (.Attribute o m apos) [] [] pos) X.env = (do
      let ov ← eval o X.env
      standAt apos.atName
      let (f, first) ← holding [ov] (getMethod ov m pl)
      callWith pos f first (backTo pos (starEach [] X.env)) (backToKw pos (keywordEach [] X.env))) := by rfl) :
    PE X (.Call (.Attribute o m apos) [] [] pos) (tMethR C m sp E ta tNil) := by
  refine ⟨fun pins s σ H Q I h => ?_⟩
  refine PySem.W.methodCall_KW (pl := pl) (thn (he.run pins s σ H _ I h) fun u s1 ⟨x, H1, I1, rx, a, dx, fs, ex, ea, l, q⟩ => ?_) ht
  subst ex
  obtain rfl : u = Value.ref a := rx
  refine getmeth_ok I1 ea c hm l ?_
  exact PySem.W.callWith_K0 (first := [.ref a]) I1.kIn hm.kp (wpAny_call (run_fnR (us := [.ref a]) (vs := [.ref a]) F hr hx I1 (.cons rfl .nil) q))
end
end Cs

set_option Elab.async false
set_option linter.all false
set_option maxRecDepth 100000
set_option maxHeartbeats 4000000
/-! The law's draws: a source is a list of the script's cells and three numbers. -/
namespace Cs
open PySem L2
/-- the builtins and helper defs that are reached, by what the module's names hold -/
structure Bi (mg : Str → Option Value) : Prop where
  len : mg "len" = none
  int : mg "int" = none
  abs : mg "abs" = none
  list : mg "list" = none
  range : mg "range" = none
  sorted : mg "sorted" = none
  str : mg "str" = none
  isinstance : mg "isinstance" = none
  sum : mg "sum" = none
  tuple : mg "tuple" = none
  dict : mg "dict" = none
  all : mg "all" = none
  bool : mg "bool" = none
  enumerate : mg "enumerate" = none
/-- all but what stands at p is as it was -/
def Kp (p : Addr) (H H' : Hp) : Prop := ∀ b o, H b = some o → b ≠ p → H' b = some o
theorem Kp.refl (p : Addr) (H : Hp) : Kp p H H := fun _ _ h _ => h
theorem Kp.trans {p : Addr} {H H1 H2 : Hp} (a : Kp p H H1) (b : Kp p H1 H2) : Kp p H H2 := fun c o h n => b c o (a c o h n) n
theorem Kp.of {p : Addr} {H H1 : Hp} (a : Same H H1) : Kp p H H1 := fun c o h _ => a c o h
theorem Kp.upd {p : Addr} {H : Hp} {o : HO} : Kp p H (upd H p o) := fun c u h n => by rw [upd_ne n]; exact h
theorem Kp.seq {K : PySem.W.Frag} {p a : Addr} {H H' : Hp} {xs : List V} (k : Kp p H H') (h : SqL K H a xs) (n : a ≠ p) : SqL K H' a xs := by
  rcases h with (h | ⟨o, h⟩) | h
  · exact .inl (.inl (k _ _ h n))
  · exact .inl (.inr ⟨o, k _ _ h n⟩)
  · exact .inr h
theorem Same.new {H : Hp} {p : Addr} {o : HO} (h : H p = none) : Same H (L2.upd H p o) := fun b u e => by
  rw [upd_ne (ne_of_none e h)]
  exact e
/-- a source of draws at p, its cells at c -/
def Src (H : Hp) (p c : Addr) : Prop := ∃ (ns : List Int) (i l n : Int), H p = some (.lst [.ref c, .int i, .int l, .int n]) ∧ H c = some (.lst (ns.map V.int)) ∧ c ≠ p ∧ 0 ≤ i ∧ 0 ≤ l
theorem Src.keep {H H' : Hp} {p c : Addr} (h : Src H p c) (s : ∀ b o, (b = p ∨ b = c) → H b = some o → H' b = some o) : Src H' p c := by
  obtain ⟨ns, i, l, n, a, b, r⟩ := h
  exact ⟨ns, i, l, n, s _ _ (.inl rfl) a, s _ _ (.inr rfl) b, r⟩
theorem Src.same {H H' : Hp} {p c : Addr} (s : Same H H') (h : Src H p c) : Src H' p c := h.keep fun b o _ e => s b o e
theorem Src.at_p {H : Hp} {p c : Addr} (h : Src H p c) : ∃ xs, H p = some (.lst xs) := by
  obtain ⟨ns, i, l, n, a, _⟩ := h
  exact ⟨_, a⟩
theorem Src.at_c {H : Hp} {p c : Addr} (h : Src H p c) : ∃ xs, H c = some (.lst xs) := by
  obtain ⟨ns, i, l, n, a, b, _⟩ := h
  exact ⟨_, b⟩
theorem Src.new_p {H : Hp} {p c q : Addr} (h : Src H p c) (n : H q = none) : q ≠ p := by
  obtain ⟨xs, e⟩ := h.at_p
  exact (ne_of_none e n).symm
theorem Src.new_c {H : Hp} {p c q : Addr} (h : Src H p c) (n : H q = none) : q ≠ c := by
  obtain ⟨xs, e⟩ := h.at_c
  exact (ne_of_none e n).symm
theorem Src.tup_p {H : Hp} {p c t : Addr} {xs : List V} (h : Src H p c) (e : H t = some (.tup xs)) : t ≠ p := by
  obtain ⟨ys, a⟩ := h.at_p
  rintro rfl
  rw [e] at a
  cases a
theorem atI0 {α : Type} {a b c d : α} : atI [a, b, c, d] 0 = some a := rfl
theorem atI1 {α : Type} {a b c d : α} : atI [a, b, c, d] 1 = some b := rfl
theorem atI2 {α : Type} {a b c d : α} : atI [a, b, c, d] 2 = some c := rfl
theorem atI3 {α : Type} {a b c d : α} : atI [a, b, c, d] 3 = some d := rfl

def spMixed : Sp := fun vs H Q _ => ∃ c n : Int, vs = [.int c, .int n] ∧ ∀ v : Int, Q (.int v) H
def spDraw : Sp := fun vs H Q _ => ∃ (p c : Addr) (n : Int), vs = [.ref p, .int n] ∧ Src H p c ∧ 0 < n ∧ n < 1329227995784915872903807060280344576 ∧ ∀ (v : Int) (H' : Hp), 0 ≤ v → v < n → Src H' p c → Kp p H H' → Q (.int v) H'
def spSource (K : PySem.W.Frag) : Sp := fun vs H Q _ => ∃ (a : Addr) (ns : List Int), vs = [.ref a] ∧ SqL K H a (ns.map V.int) ∧ ∀ (p c : Addr) (H' : Hp), H p = none → H c = none → Same H H' → Src H' p c → Q (.ref p) H'

section
variable {P : Program} {w : World} {K : PySem.W.Frag} {mg : Str → Option Value} {base : Heap}
theorem ok_mixed {f : Addr} {fd : FuncData} (F : Fun K "_law_mixed" "_law_mixed" s_l_mixed f fd) (g : Bi mg) : FnOk P w K mg base CX0 1 f fd ["_law_cell", "_law_count"] spMixed := by
  refine F.ok sc_l_mixed (fun vs H Q E h => ?_) (fun cdv A outer s H vs Q E hr h => ?_)
  · obtain ⟨_, _, rfl, _⟩ := h
    rfl
  · obtain ⟨c, n, rfl, k⟩ := h
    refine ⟨_, (pss_cons (ps_if (pt_cmpR op_eq (pv 0) pe_int (nomark _)) (pss_one (ps_ret pe_int)) pss_nil)
      (pss_cons (ps_set (i := 2) sc_l_mixed.nd rfl (Or.inl rfl) (pe_op op_mod (pe_callTy call_int1 (by rfl) g.int (by decide +kernel) (pa_cons (pe_op op_add (pe_op op_mul (pv 0) pe_int) (pe_op op_mul (pv 1) pe_int)) pa_nil)) pe_int))
      (pss_one (ps_ret (pe_op op_fdiv (pe_op op_mod (pe_callTy call_int1 (by rfl) g.int (by decide +kernel) (pa_cons (pe_op op_add (pe_op op_add (pe_op op_mul (pv 2) pe_int) (pe_op op_mul (pe_op op_fdiv (pv 2) pe_int) (pv 1))) pe_int) pa_nil)) pe_int) pe_int))))), ?_⟩
    refine ⟨_, rfl, rfl, _, rfl, ite2 (fun _ => k _) (fun _ => ?_)⟩
    refine ⟨_, rfl, _, _, rfl, rfl, .inr ⟨by decide, by decide⟩, _, rfl, _, _, rfl, rfl, .inr ⟨by decide, by decide⟩, _, _, rfl, rfl, Or.inl ⟨_, rfl, _, _, rfl, rfl, (by show (0 : Int) < 2147483647; decide), ?_⟩⟩
    generalize hf : (c * 48271 + n * 69621) % 2147483647 = a
    have h0 : 0 ≤ a := by rw [← hf]; exact Int.emod_nonneg _ (by decide)
    have h1 : a < 2147483647 := by rw [← hf]; exact Int.emod_lt_of_pos _ (by decide)
    refine ⟨_, rfl, _, _, rfl, rfl, .inr ⟨by decide, by decide⟩, _, rfl, _, _, rfl, rfl, ⟨by decide, by decide⟩, _, rfl, _, _, rfl, rfl, .inl ⟨by omega, by omega⟩, _, _, rfl, rfl, _, _, rfl, rfl, Or.inl ⟨_, rfl, _, _, rfl, rfl, (by show (0 : Int) < 2147483399; decide), _, _, rfl, rfl, ⟨by decide, by decide⟩, k _⟩⟩
theorem ok_source {f : Addr} {fd : FuncData} (F : Fun K "_law_source" "_law_source" s_l_source f fd) (g : Bi mg) : FnOk P w K mg base CX0 1 f fd ["_law_script"] (spSource K) := by
  refine F.ok sc_l_source (fun vs H Q E h => ?_) (fun cdv A outer s H vs Q E hr h => ?_)
  · obtain ⟨_, _, rfl, _⟩ := h
    rfl
  · obtain ⟨a, ns, rfl, hS, k⟩ := h
    refine ⟨_, (pss_one (ps_ret (pe_lst (pa_cons (pe_callTy call_list_of (by rfl) g.list (by decide +kernel) (pa_cons (pe_slice sl_list (pv 0) po_none (po_some pe_int)) pa_nil)) (pa_cons pe_int (pa_cons pe_int (pa_cons pe_int pa_nil))))))), ?_⟩
    refine ⟨_, rfl, _, rfl, a, _, rfl, hS, fun q hq => ⟨q, _, rfl, .inl (SqL.of upd_same), fun c hc => ⟨by show 4 ≤ sizeLine; decide, fun p hp => ?_⟩⟩⟩
    have s1 : Same H (upd H q (.lst (cutV (ns.map V.int) none (some 63)))) := Same.new hq
    have s2 := s1.trans (Same.new (o := .lst (cutV (ns.map V.int) none (some 63))) hc)
    have s3 := s2.trans (Same.new (o := .lst [.ref c, .int 0, .int 0, .int 0]) hp)
    have ncp : c ≠ p := ne_of_none (H := upd _ c _) upd_same hp
    obtain ⟨ms, em⟩ : ∃ ms : List Int, cutV (ns.map V.int) none (some 63) = ms.map V.int := by
      unfold cutV
      rw [← List.map_drop, ← List.map_take]
      exact ⟨_, rfl⟩
    refine k p c _ (s2.free hp) (s1.free hc) s3 ⟨ms, 0, 0, 0, upd_same, ?_, ncp, by decide, by decide⟩
    rw [upd_ne ncp, upd_same, em]
theorem ok_draw {f fM : Addr} {fd fdM : FuncData} (F : Fun K "_law_draw" "_law_draw" s_l_draw f fd) (g : Bi mg) (FM : Fun K "_law_mixed" "_law_mixed" s_l_mixed fM fdM) (mM : mg "_law_mixed" = some (.ref fM)) (bM : Binds K fdM ["_law_cell", "_law_count"] []) :
    FnOk P w K mg base CX0 2 f fd ["_law_source_here", "_law_size"] spDraw := by
  have GM : FnOk P w K mg base CX0 1 fM fdM ["_law_cell", "_law_count"] spMixed := ok_mixed FM g
  refine F.ok sc_l_draw (fun vs H Q E h => ?_) (fun cdv A outer s H vs Q E hr h => ?_)
  · obtain ⟨_, _, _, rfl, _⟩ := h
    rfl
  · obtain ⟨p, c, n, rfl, ⟨ns, i, l, m, hp, hc, ncp, hi, hl⟩, n0, n1, k⟩ := h
    have hrM : Room 1 _ := hr.mono (by decide)
    refine ⟨_, (pss_cons (ps_asg (pe_op op_add (pe_ix ix_list (pv 0) pe_int (fun _ _ => rfl)) pe_int) (pg_sub (pv 0) pe_int set_list))
      (C8.pss_cut (ps_if (PW.pt (pw_and (pt_cmpR op_eq (pe_ix ix_list (pv 0) pe_int (fun _ _ => rfl)) pe_int (nomark _)) (pw_and1 (pt_cmpR op_gt (pe_callB call_len (by rfl) g.len PySem.boot_len (pa_cons (pe_ix ix_list (pv 0) pe_int (fun _ _ => rfl)) pa_nil)) pe_int (nomark _))))) (pss_cons (ps_set (i := 2) sc_l_draw.nd rfl (Or.inl rfl) (pe_ix ix_list (pv 0) pe_int (fun _ _ => rfl)))
      (pss_cons (ps_set (i := 3) sc_l_draw.nd rfl (Or.inl rfl) (pe_ix ix_list (pe_ix ix_list (pv 0) pe_int (fun _ _ => rfl)) (pe_op op_mod (pe_callTy call_int1 (by rfl) g.int (by decide +kernel) (pa_cons (pv 2) pa_nil)) (pe_callB call_len (by rfl) g.len PySem.boot_len (pa_cons (pe_ix ix_list (pv 0) pe_int (fun _ _ => rfl)) pa_nil))) (fun _ _ => rfl)))
      (pss_cons (ps_asg (pe_op op_add (pv 2) pe_int) (pg_sub (pv 0) pe_int set_list))
      (pss_one (ps_if (PW.pt (pw_and (pt_cmpR op_lt (pv 2) (pe_callB call_len (by rfl) g.len PySem.boot_len (pa_cons (pe_ix ix_list (pv 0) pe_int (fun _ _ => rfl)) pa_nil)) (nomark _)) (pw_and1 (pt_cmpR op_ge (pe_callB call_abs (by rfl) g.abs (by decide +kernel) (pa_cons (pv 3) pa_nil)) (pe_op op_pow pe_int pe_int) (nomark _))))) (pss_one (ps_asg (pe_callB call_abs (by rfl) g.abs (by decide +kernel) (pa_cons (pv 3) pa_nil)) (pg_sub (pv 0) pe_int set_list))) (pss_one (ps_ret (pe_op op_mod (pe_callTy call_int1 (by rfl) g.int (by decide +kernel) (pa_cons (pe_call GM hrM rfl mM FM.kp bM .nil pass0 (pa_cons (pv 3) (pa_cons (pe_ix ix_list (pv 0) pe_int (fun _ _ => rfl)) pa_nil))) pa_nil)) (pv 1))))))))) pss_nil)
      (pss_cons (ps_set (i := 4) sc_l_draw.nd rfl (Or.inl rfl) (pe_op op_mod (pe_callTy call_int1 (by rfl) g.int (by decide +kernel) (pa_cons (pe_ix ix_list (pv 0) pe_int (fun _ _ => rfl)) pa_nil)) (pv 1)))
      (pss_cons (ps_asg (pe_op op_fdivW (pe_ix ix_list (pv 0) pe_int (fun _ _ => rfl)) (pv 1)) (pg_sub (pv 0) pe_int set_list))
      (pss_one (ps_ret (pv 4))))))), ?_⟩
    have c1 : ∀ o, (upd H p o) c = some (.lst (ns.map V.int)) := fun o => by rw [upd_ne ncp]; exact hc
    have q1 : ∀ xs, SqL K (upd H p (.lst xs)) p xs := fun xs => SqL.of upd_same
    have q2 : ∀ o, SqL K (upd H p o) c (ns.map V.int) := fun o => SqL.of (c1 o)
    refine ⟨_, rfl, p, _, _, _, rfl, rfl, SqL.of hp, atI3, _, _, rfl, rfl, _, rfl, p, _, _, 3, rfl, rfl, hp, rfl, ?_⟩
    have e1 : ([V.ref c, .int i, .int l, .int m].set 3 (.int (m + 1))) = [V.ref c, .int i, .int l, .int (m + 1)] := rfl
    rw [e1]
    refine ⟨fun σ' H2 => ∃ x2 x3 x4 j l2, σ' = [some (.ref p), some (.int n), x2, x3, x4] ∧ H2 p = some (.lst [.ref c, .int j, .int l2, .int (m + 1)]) ∧ H2 c = some (.lst (ns.map V.int)) ∧ 0 ≤ j ∧ 0 ≤ l2 ∧ Kp p H H2, ?_, ?_⟩
    · refine ⟨_, rfl, p, _, _, _, rfl, rfl, q1 _, atI2, rfl, _, rfl, ?_⟩
      refine ite2 (fun z => ?_) (fun z => ?_)
      · refine ⟨_, rfl, p, _, _, _, rfl, rfl, q1 _, atI0, _, _, rfl, .inl ⟨_, q2 _, rfl⟩, _, _, rfl, rfl, _, rfl, ?_⟩
        rw [List.length_map]
        refine ite2 (fun z2 => ?_) (fun z2 => ?_)
        · have hlen : 0 < ns.length := by simpa using z2
          refine ⟨_, rfl, p, _, _, _, rfl, rfl, q1 _, atI1, ?_⟩
          have hx0 : 0 ≤ i % (ns.length : Int) := Int.emod_nonneg _ (by omega)
          have hx1 : i % (ns.length : Int) < (ns.length : Int) := Int.emod_lt_of_pos _ (by omega)
          obtain ⟨j, ej⟩ : ∃ j : Nat, i % (ns.length : Int) = (j : Int) := ⟨(i % (ns.length : Int)).toNat, by omega⟩
          have hj : j < ns.length := by omega
          have hat : atI (ns.map V.int) (i % ((ns.map V.int).length : Int)) = some (.int ns[j]) := by
            rw [List.length_map, ej]
            exact atI_nat (by rw [List.getElem?_map, List.getElem?_eq_getElem hj]; rfl)
          refine ⟨_, rfl, p, _, _, _, rfl, rfl, q1 _, atI0, _, rfl, Or.inl ⟨_, rfl, _, rfl, p, _, _, _, rfl, rfl, q1 _, atI0, _, _, rfl, .inl ⟨_, q2 _, rfl⟩, _, _, rfl, rfl, (by rw [List.length_map]; omega), c, _, _, _, rfl, rfl, q2 _, hat, ?_⟩⟩
          refine ⟨_, rfl, _, _, rfl, rfl, _, rfl, p, _, _, 1, rfl, rfl, upd_same, rfl, ?_⟩
          have e2 : ([V.ref c, .int i, .int l, .int (m + 1)].set 1 (.int (i + 1))) = [V.ref c, .int (i + 1), .int l, .int (m + 1)] := rfl
          rw [e2]
          have c2 : ∀ o o', (upd (upd H p o) p o') c = some (.lst (ns.map V.int)) := fun o o' => by rw [upd_ne ncp]; exact c1 o
          have kp2 : ∀ o o', Kp p H (upd (upd H p o) p o') := fun o o' => Kp.upd.trans Kp.upd
          have other : ∀ v : Int, Q (.int (v % n)) (upd (upd H p (.lst [.ref c, .int i, .int l, .int (m + 1)])) p (.lst [.ref c, .int (i + 1), .int l, .int (m + 1)])) := fun v =>
            k _ _ (Int.emod_nonneg _ (by omega)) (Int.emod_lt_of_pos _ n0) ⟨ns, i + 1, l, m + 1, upd_same, c2 _ _, ncp, by omega, hl⟩ (kp2 _ _)
          refine ⟨_, rfl, _, rfl, p, _, _, _, rfl, rfl, SqL.of upd_same, atI0, _, _, rfl, .inl ⟨_, SqL.of (c2 _ _), rfl⟩, _, _, rfl, rfl, _, rfl, ?_⟩
          refine ite2 (fun z3 => ?_) (fun z3 => ?_)
          · refine ⟨_, rfl, _, rfl, _, _, rfl, rfl, ⟨by decide, by decide, by decide⟩, _, _, rfl, rfl, _, rfl, ?_⟩
            refine ite2 (fun z4 => ?_) (fun z4 => ?_)
            · refine ⟨_, rfl, _, rfl, _, rfl, p, _, _, 2, rfl, rfl, upd_same, rfl, ?_⟩
              refine ⟨_, _, _, i + 1, _, rfl, upd_same, by rw [upd_ne ncp]; exact c2 _ _, by omega, ?_, (kp2 _ _).trans Kp.upd⟩
              split <;> omega
            · refine ⟨_, rfl, _, rfl, p, _, _, _, rfl, rfl, SqL.of upd_same, atI3, _, _, rfl, fun v => Or.inl ⟨_, rfl, _, rfl, _, _, rfl, rfl, n0, other v⟩⟩
          · refine ⟨_, rfl, _, rfl, p, _, _, _, rfl, rfl, SqL.of upd_same, atI3, _, _, rfl, fun v => Or.inl ⟨_, rfl, _, rfl, _, _, rfl, rfl, n0, other v⟩⟩
        · exact ⟨_, _, _, i, l, rfl, upd_same, c1 _, hi, hl, Kp.upd⟩
      · exact ⟨_, _, _, i, l, rfl, upd_same, c1 _, hi, hl, Kp.upd⟩
    · rintro σ' H2 ⟨x2, x3, x4, j, l2, rfl, hp2, hc2, j0, l0, kp⟩
      refine ⟨_, rfl, p, _, _, _, rfl, rfl, SqL.of hp2, atI2, Or.inl ⟨_, rfl, _, rfl, _, _, rfl, rfl, n0, ?_⟩⟩
      refine ⟨_, rfl, p, _, _, _, rfl, rfl, SqL.of hp2, atI2, _, rfl, _, _, rfl, rfl, wide_div (b := 120) n0 (by omega) (by decide) (by decide), _, rfl, p, _, _, 2, rfl, rfl, hp2, rfl, ?_⟩
      refine ⟨_, rfl, ?_⟩
      exact k _ _ (Int.emod_nonneg _ (by omega)) (Int.emod_lt_of_pos _ n0) ⟨ns, j, l2 / n, m + 1, upd_same, by rw [upd_ne ncp]; exact hc2, ncp, j0, Int.ediv_nonneg l0 (by omega)⟩ (kp.trans Kp.upd)
end
end Cs

set_option Elab.async false
set_option linter.all false
set_option maxRecDepth 100000
set_option maxHeartbeats 4000000
/-! The law's words, numbers and pairs. -/
namespace Cs
open PySem L2
def LET : Str := "abcdefghijklmnopqrstuvwxyz"
/-- one to eight letters -/
def Word (z : Str) : Prop := 1 ≤ z.length ∧ z.length ≤ 8 ∧ ∀ c ∈ z.cps.toList, c ∈ LET.cps.toList
/-- at most thirty digits -/
def Small (n : Int) : Prop := -(10 ^ 30) < n ∧ n < 10 ^ 30
theorem len_add (x y : Str) : (x ++ y).length = x.length + y.length := by
  show (x.cps ++ y.cps).size = x.cps.size + y.cps.size
  exact Array.size_append
theorem cps_add (x y : Str) : (x ++ y).cps.toList = x.cps.toList ++ y.cps.toList := by
  show (x.cps ++ y.cps).toList = _
  exact Array.toList_append
def wordB (z : Str) : Bool := decide (1 ≤ z.length) && decide (z.length ≤ 8) && z.cps.toList.all fun c => decide (c ∈ LET.cps.toList)
theorem word_of {z : Str} (h : wordB z = true) : Word z := by
  unfold wordB at h
  simp only [Bool.and_eq_true, decide_eq_true_eq, List.all_eq_true] at h
  exact ⟨h.1.1, h.1.2, h.2⟩
theorem ats_of {α : Type} {xs : List α} {z : Int} {j : Nat} {v : α} (e : z = (j : Int)) (h : xs[j]? = some v) : atI xs z = some v := by
  rw [e]
  exact atI_nat h
def spWord : Sp := fun vs H Q _ => ∃ p c : Addr, vs = [.ref p] ∧ Src H p c ∧ ∀ (z : Str) (H' : Hp), Word z → Src H' p c → Kp p H H' → Q (.str z) H'
def spNumber : Sp := fun vs H Q _ => ∃ p c : Addr, vs = [.ref p] ∧ Src H p c ∧ ∀ (n : Int) (H' : Hp), Small n → Src H' p c → Kp p H H' → Q (.int n) H'
/-- the items are tuples of a text and a number -/
def PrL (H : Hp) : List V → List (Str × Int) → Prop := Paired fun x q => ∃ t, x = V.ref t ∧ H t = some (.tup [.str q.1, .int q.2])
def GoodPs (ps : List (Str × Int)) : Prop := ∀ q ∈ ps, Word q.1 ∧ Small q.2
def spPairs : Sp := fun vs H Q _ => ∃ (p c : Addr) (m : Int), vs = [.ref p, .int m] ∧ Src H p c ∧ 0 ≤ m ∧ m ≤ 1000 ∧
  ∀ (q : Addr) (H' : Hp) (xs : List V) (ps : List (Str × Int)), H q = none → H' q = some (.lst xs) → PrL H' xs ps → GoodPs ps → (ps.length : Int) ≤ m → Src H' p c → Kp p H H' → Q (.ref q) H'
theorem PrL.mono {H H' : Hp} {xs : List V} {ps : List (Str × Int)} (h : PrL H xs ps) (k : ∀ t a b, H t = some (.tup [.str a, .int b]) → H' t = some (.tup [.str a, .int b])) : PrL H' xs ps :=
  Paired.mapP h fun x q ⟨t, e, r⟩ => ⟨t, e, k t _ _ r⟩
theorem PrL.length {H : Hp} : ∀ {xs : List V} {ps : List (Str × Int)}, PrL H xs ps → xs.length = ps.length
  | _, _, .nil => rfl
  | _, _, .cons _ t => congrArg (· + 1) (PrL.length t)
theorem PrL.at {H : Hp} : ∀ {xs : List V} {ps : List (Str × Int)}, PrL H xs ps → ∀ {i : Nat} {q : Str × Int}, ps[i]? = some q → ∃ t, xs[i]? = some (V.ref t) ∧ H t = some (.tup [.str q.1, .int q.2])
  | _, _, .nil, i, q, h => by simp at h
  | _, _, .cons (a := a) r t, 0, q, h => by
    obtain ⟨u, e, hu⟩ := r
    obtain rfl := Option.some.inj h
    exact ⟨u, by rw [e]; rfl, hu⟩
  | _, _, .cons r t, i + 1, q, h => PrL.at t h
theorem PrL.snoc {H : Hp} : ∀ {xs : List V} {ps : List (Str × Int)} {t : Addr} {a : Str} {b : Int}, PrL H xs ps → H t = some (.tup [.str a, .int b]) → PrL H (xs ++ [.ref t]) (ps ++ [(a, b)])
  | _, _, _, _, _, .nil, h => .cons ⟨_, rfl, h⟩ .nil
  | _, _, _, _, _, .cons r t, h => .cons r (PrL.snoc t h)
section
variable {P : Program} {w : World} {K : PySem.W.Frag} {mg : Str → Option Value} {base : Heap}
/-- a def of the module as its callers have it: its promise, its name, that it stays, how its arguments bind -/
structure Def (P : Program) (w : World) (K : PySem.W.Frag) (mg : Str → Option Value) (base : Heap) (CX : CXT) (k : Nat) (x : Str) (ps : List Str) (sp : Sp) (f : Addr) (fd : FuncData) : Prop where
  ok : FnOk P w K mg base CX k f fd ps sp
  m : mg x = some (.ref f)
  kp : PySem.W.keepIn K (.ref f) = true
  b : Binds K fd ps []
end
end Cs

set_option Elab.async false
set_option linter.all false
set_option maxRecDepth 100000
set_option maxHeartbeats 4000000
namespace Cs
open PySem L2
section
variable {P : Program} {w : World} {K : PySem.W.Frag} {mg : Str → Option Value} {base : Heap}
end
end Cs

set_option Elab.async false
set_option linter.all false
set_option maxRecDepth 100000
set_option maxHeartbeats 4000000
/-! The program's words: is_integer, is_word, is_small, is_pair, distinct. -/
namespace Cs
open PySem L2
/-- a value of a built-in type that is no int -/
def NotInt (K : PySem.W.Frag) (H : Hp) (x : V) : Prop := ∃ ty : String, TyX K H x (.type ty) ∧ (ty = "bool" ∨ kitB ty "int" = some false)
def spIsInteger (K : PySem.W.Frag) : Sp := fun vs H Q _ => (∃ n : Int, vs = [.int n] ∧ Q (.bl true) H) ∨ (∃ x, vs = [x] ∧ NotInt K H x ∧ Q (.bl false) H)
def spIsSmall (K : PySem.W.Frag) : Sp := fun vs H Q _ => (∃ n : Int, vs = [.int n] ∧ Q (.bl (decide (-(10 ^ 30) < n) && decide (n < 10 ^ 30))) H) ∨ (∃ x, vs = [x] ∧ NotInt K H x ∧ Q (.bl false) H)
def spIsWord (K : PySem.W.Frag) : Sp := fun vs H Q _ => (∃ z : Str, vs = [.str z] ∧ z.length ≤ 100000 ∧ ∀ H', Same H H' → Q (.bl (wordB z)) H') ∨ (∃ x ty, vs = [x] ∧ TyX K H x (.type ty) ∧ kitB ty "str" = some false ∧ Q (.bl false) H)
/-- of a good pair -/
def spIsPair (K : PySem.W.Frag) : Sp := fun vs H Q _ => ∃ (t : Addr) (z : Str) (n : Int), vs = [.ref t] ∧ H t = some (.tup [.str z, .int n]) ∧ Word z ∧ Small n ∧ ∀ H', Same H H' → Q (.bl true) H'
def spDistinct (K : PySem.W.Frag) : Sp := fun vs H Q _ => ∃ (a : Addr) (zs : List Str), vs = [.ref a] ∧ SqL K H a (zs.map V.str) ∧ zs.length ≤ 1000 ∧
  ∀ (p : Addr) (H' : Hp) (ws : List Str), H p = none → Same H H' → H' p = some (.lst (ws.map V.str)) → Asc ws → (∀ z, z ∈ ws ↔ z ∈ zs) → ws.length ≤ zs.length → Q (.ref p) H'
theorem wordB_of {z : Str} (h : Word z) : wordB z = true := by
  unfold wordB
  simp only [Bool.and_eq_true, decide_eq_true_eq, List.all_eq_true]
  exact ⟨⟨h.1, h.2.1⟩, h.2.2⟩
theorem kit_int {K : PySem.W.Frag} {H : Hp} {x : V} (h : NotInt K H x) : ∃ ty, TyX K H x (.type ty) ∧ (ty = "bool" ∨ kitB ty "int" = some false) := h
theorem yes_it {σ : L2.St} {H : Hp} {A B : Hp → Prop} (h : A H) : tYes σ H (fun b H3 => if b = true then A H3 else B H3) := iteT (A := A H) (B := B H) h
/-- a set comprehension of texts over a walk -/
theorem scT_it {J : It} {n : Nat} {G : Hp → Prop} {Y : Nat → Hp → V → Hp → Prop} (wk : Walk J n G Y) {w : World} {g : TG} {tt : TT} {te : TE} {vs : List Nat} {σ : L2.St} {H1 : Hp} {D : Addr} {Qd : Hp → Prop} (Pv : Nat → Hp → Prop)
    (h0 : Pv 0 (upd H1 D (TSetO w D []))) (hG : ∀ i H, i ≤ n → Pv i H → G H)
    (hs : ∀ i x H H', i < n → Pv i H → Y i H x H' → g x (wipe σ vs) H' fun σ2 H2 => wipe σ2 vs = wipe σ vs ∧ tt σ2 H2 fun b H3 =>
      if b = true then te σ2 H3 fun y H4 => ∃ (z : Str) (zs : List Str), y = .str z ∧ H4 D = some (TSetO w D zs) ∧ zs.length + 1 < scanBound ∧ Pv (i + 1) (upd H4 D (TSetO w D (addT zs z))) else Pv (i + 1) H3)
    (hd : ∀ H, Pv n H → Qd H) :
    ∃ W : Nat → Nat → Hp → Prop, (∃ m, W 0 m (upd H1 D (TSetO w D []))) ∧ ∀ i m H, W i m H →
      (J.stop i H ∧ Qd H) ∨ (J.go i H ∧ ∃ Nx : Hp → Prop, (∀ H', Nx H' → ∃ m', m' < m ∧ W (i + 1) m' H') ∧ ∀ x H', J.yld i H x H' → g x (wipe σ vs) H' fun σ2 H2 => wipe σ2 vs = wipe σ vs ∧ tt σ2 H2 fun b H3 =>
        if b = true then te σ2 H3 fun y H4 => ∃ (z : Str) (zs : List Str), y = .str z ∧ H4 D = some (TSetO w D zs) ∧ zs.length + 1 < scanBound ∧ Nx (upd H4 D (TSetO w D (addT zs z))) else Nx H3) := by
  refine ⟨fun i m H => m = n - i ∧ i ≤ n ∧ Pv i H, ⟨n, by simp, Nat.zero_le _, h0⟩, ?_⟩
  rintro i m H ⟨rfl, hi, p⟩
  by_cases lt : i < n
  · exact .inr ⟨wk.goes i H lt (hG i H hi p), Pv (i + 1), fun H' r => ⟨n - (i + 1), by omega, rfl, lt, r⟩, fun x H' y => hs i x H H' lt p (wk.yields i H x H' lt (hG i H hi p) y)⟩
  · obtain rfl : i = n := by omega
    exact .inl ⟨wk.stops H (hG i H hi p), hd H p⟩
section
variable {P : Program} {w : World} {K : PySem.W.Frag} {mg : Str → Option Value} {base : Heap}
theorem ok_is_integer {f : Addr} {fd : FuncData} (F : Fun K "is_integer" "is_integer" s_is_integer f fd) (g : Bi mg) : FnOk P w K mg base CX0 1 f fd ["thing"] (spIsInteger K) := by
  refine F.ok sc_is_integer (fun vs H Q E h => ?_) (fun cdv A outer s H vs Q E hr h => ?_)
  · rcases h with ⟨_, rfl, _⟩ | ⟨_, rfl, _⟩ <;> rfl
  · refine ⟨_, (pss_one (ps_ret (pe_and (pe_callB call_isi (by rfl) g.isinstance (by decide +kernel) (pa_cons (pv 0) (pa_cons (pe_bltn (v := .ty "int") (by rfl) g.int (by decide +kernel) rfl) pa_nil))) (pe_one (pe_not (pe_callB call_isi (by rfl) g.isinstance (by decide +kernel) (pa_cons (pv 0) (pa_cons (pe_bltn (v := .ty "bool") (by rfl) g.bool (by decide +kernel) rfl) pa_nil)))))))), ?_⟩
    rcases h with ⟨n, rfl, q⟩ | ⟨x, rfl, ⟨ty, ht, hc⟩, q⟩
    · refine ⟨_, rfl, _, _, _, _, true, rfl, .ty "int", .base (.int n), kit_ty (by decide +kernel), _, rfl, iteT ?_⟩
      exact ⟨_, rfl, _, _, _, _, false, rfl, .ty "bool", .base (.int n), kit_ty (by decide +kernel), _, rfl, q⟩
    · rcases hc with e | e
      · subst e
        refine ⟨_, rfl, _, _, _, _, true, rfl, .ty "int", ht, kit_ty (by decide +kernel), _, rfl, iteT ?_⟩
        exact ⟨_, rfl, _, _, _, _, true, rfl, .ty "bool", ht, kit_ty (by decide +kernel), _, rfl, q⟩
      · exact ⟨_, rfl, _, _, _, _, false, rfl, .ty "int", ht, kit_ty e, _, rfl, iteF q⟩
theorem ok_is_word {f : Addr} {fd : FuncData} {tk : Tok} (F : Fun K "is_word" "is_word" s_is_word f fd) (g : Bi mg) (mLET : mg "LETTERS" = some (.str LET tk)) : FnOk P w K mg base CX0 1 f fd ["thing"] (spIsWord K) := by
  refine F.ok sc_is_word (fun vs H Q E h => ?_) (fun cdv A outer s H vs Q E hr h => ?_)
  · rcases h with ⟨_, rfl, _⟩ | ⟨_, _, rfl, _⟩ <;> rfl
  · refine ⟨_, (pss_cons (ps_if (PW.pt (pw_or (pt_not (pt_val (pe_callB call_isi (by rfl) g.isinstance (by decide +kernel) (pa_cons (pv 0) (pa_cons (pe_bltn (v := .ty "str") (by rfl) g.str (by decide +kernel) rfl) pa_nil))))) (pw_or1 (pt_not (pt_chain op_le op_le pe_int (pe_callB call_len (by rfl) g.len PySem.boot_len (pa_cons (pv 0) pa_nil)) pe_int))))) (pss_one (ps_ret pe_bl)) pss_nil)
      (pss_one (ps_ret (pe_callB (cr_all rfl) (by rfl) g.all (by decide +kernel) (pa_cons (pe_lc (own := [("sign", 1)]) (g := gName 1)  (by rfl) sc_is_word.nd (pi_str (pv 0)) (blkOk_by (own := [("sign", 1)]) (N := ["thing", "sign"]) (sc := defScope s_is_word) (by decide +kernel)) (fun _ _ _ _ _ => (pg_name (i := 1) sc_is_word.nd rfl (Or.inl rfl))) (fun _ _ _ _ _ => pts_nil) (fun _ _ _ _ _ => (pe_cmpR op_in_sign (pv 1) (pe_glob (v := .str LET) rfl mLET ⟨_, rfl⟩) (by rfl)))) pa_nil))))), ?_⟩
    rcases h with ⟨z, rfl, hz, q⟩ | ⟨x, ty, rfl, ht, hc, q⟩
    · refine ⟨_, rfl, _, _, _, _, true, rfl, .ty "str", .base (.str z), kit_ty (by decide +kernel), _, rfl, iteF ?_⟩
      have hl : z.length ≤ sizeLine := Nat.le_trans hz (by decide)
      refine ⟨_, rfl, _, _, rfl, ⟨hl, rfl⟩, _, _, rfl, rfl, _, rfl, ?_⟩
      have go : 1 ≤ z.length → z.length ≤ 8 → Q (.bl (wordB z)) H := fun _ _ => q H (Same.refl H)
      by_cases c : (1 : Int) ≤ (z.length : Int)
      · rw [decide_eq_true c]
        refine iteT ⟨_, _, rfl, rfl, _, rfl, ?_⟩
        by_cases d : ((z.length : Nat) : Int) ≤ 8
        · rw [decide_eq_true d]
          refine iteF ?_
          refine ⟨_, rfl, z, rfl, fun D hD => ?_⟩
          refine lc_it walk_str (fun i H' => Same H H' ∧ H' D = some (.lst ((z.cps.toList.take i).map fun c => .bl (decide (c ∈ LET.cps.toList))))) ⟨Same.new hD, upd_same⟩ (fun _ _ _ _ => True.intro) ?_ ?_
          · rintro i x H' H2 hi ⟨s', hD'⟩ ⟨rfl, c, hc, rfl⟩
            have hc' : z.cps.toList[i]? = some c := by rw [Array.getElem?_toList]; exact hc
            refine ⟨rfl, yes_it ?_⟩
            refine ⟨_, rfl, c, LET, rfl, rfl, _, hD', ?_, ?_, ?_⟩
            · rw [List.length_map, List.length_take]
              exact Nat.lt_of_le_of_lt (Nat.min_le_left _ _) (Nat.lt_of_lt_of_le hi hl)
            · exact fun b o e => by rw [upd_ne (ne_of_none e hD)]; exact s' b o e
            · rw [upd_same, List.take_succ, hc', List.map_append]
              rfl
          · rintro H' ⟨s', hD'⟩
            refine ⟨D, (z.cps.toList.map fun c => decide (c ∈ LET.cps.toList)), rfl, SqL.of ?_, ?_⟩
            · rw [hD', List.map_map, List.take_of_length_le (by rw [Array.length_toList]; exact Nat.le_refl _)]
              rfl
            · have e : (z.cps.toList.map fun c => decide (c ∈ LET.cps.toList)).all id = wordB z := by
                unfold wordB
                rw [List.all_map, decide_eq_true (show 1 ≤ z.length by omega), decide_eq_true (show z.length ≤ 8 by omega)]
                rfl
              rw [e]
              exact q H' s'
        · rw [decide_eq_false d]
          refine iteT ?_
          have e : wordB z = false := by
            unfold wordB
            rw [decide_eq_false (show ¬ z.length ≤ 8 by omega)]
            simp
          have := q H (Same.refl H)
          rw [e] at this
          exact this
      · rw [decide_eq_false c]
        refine iteF ⟨_, rfl, iteT ?_⟩
        have e : wordB z = false := by
          unfold wordB
          rw [decide_eq_false (show ¬ 1 ≤ z.length by omega)]
          simp
        have := q H (Same.refl H)
        rw [e] at this
        exact this
    · exact ⟨_, rfl, _, _, _, _, false, rfl, .ty "str", ht, kit_ty hc, _, rfl, iteT q⟩
theorem ok_distinct {f : Addr} {fd : FuncData} (F : Fun K "distinct" "distinct" s_distinct f fd) (g : Bi mg) : FnOk P w K mg base CX0 1 f fd ["words"] (spDistinct K) := by
  refine F.ok sc_distinct (fun vs H Q E h => ?_) (fun cdv A outer s H vs Q E hr h => ?_)
  · obtain ⟨_, _, rfl, _⟩ := h
    rfl
  · obtain ⟨a, zs, rfl, ha, hl, q⟩ := h
    refine ⟨_, (pss_one (ps_ret (pe_callB (cr_sortT rfl) (by rfl) g.sorted (by decide +kernel) (pa_cons (pe_scT (own := [("word", 1)]) (g := gName 1)  (by rfl) sc_distinct.nd (pi_list (pv 0)) (blkOk_by (own := [("word", 1)]) (N := ["words", "word"]) (sc := defScope s_distinct) (by decide +kernel)) (fun _ _ _ _ _ => (pg_name (i := 1) sc_distinct.nd rfl (Or.inl rfl))) (fun _ _ _ _ _ => pts_nil) (fun _ _ _ _ _ => (pe_callTy SkE.call_str_str (by rfl) g.str (by decide +kernel) (pa_cons (pv 1) pa_nil)))) pa_nil)))), ?_⟩
    refine ⟨_, rfl, a, rfl, ⟨_, ha⟩, fun D hD => ?_⟩
    refine scT_it walk_list (fun i H' => Same H H' ∧ H' D = some (TSetO w D (once (zs.take i)))) ⟨Same.new hD, upd_same⟩ (fun i H' _ h => h.1.seq ha) ?_ ?_
    · rintro i x H' H2 hi ⟨s', hD'⟩ ⟨rfl, hx⟩
      rw [List.length_map] at hi
      have ex : x = V.str zs[i] := by
        rw [List.getElem?_map, List.getElem?_eq_getElem hi] at hx
        exact (Option.some.inj hx).symm
      subst ex
      refine ⟨rfl, yes_it ?_⟩
      refine ⟨_, rfl, _, rfl, zs[i], _, rfl, hD', ?_, ?_, ?_⟩
      · have h1 := once_len (zs.take i)
        rw [List.length_take] at h1
        exact Nat.lt_of_le_of_lt (show (once (zs.take i)).length + 1 ≤ 1001 by omega) (by decide)
      · exact fun b o e => by rw [upd_ne (ne_of_none e hD)]; exact s' b o e
      · rw [upd_same, List.take_succ, List.getElem?_eq_getElem hi]
        show some (TSetO w D (addT (once (zs.take i)) zs[i])) = some (TSetO w D (once (zs.take i ++ [zs[i]])))
        rw [once_snoc]
    · rintro H' ⟨s', hD'⟩
      rw [List.length_map, List.take_length] at hD'
      have h1 := once_len zs
      refine ⟨D, _, rfl, hD', by omega, fun ys p hp hs hn => ?_⟩
      refine q p _ ys (s'.free hn) (s'.trans (Same.new hn)) upd_same (asc_of_sorted hs (hp.nodup_iff.mpr (once_nodup zs))) (fun z => by rw [hp.mem_iff, once_mem]) (by rw [hp.length_eq]; exact h1)
end
end Cs

set_option Elab.async false
set_option linter.all false
set_option maxRecDepth 100000
set_option maxHeartbeats 4000000
/-! [e for x in xs] by the values of e. -/
namespace Cs
open PySem L2
theorem same_new {H : Hp} {a : Addr} {o : HO} (h : H a = none) : Same H (upd H a o) := fun b u e => by rw [upd_ne (ne_of_none e h)]; exact e
theorem yes_of {σ : L2.St} {H : Hp} {A B : Hp → Prop} (h : A H) : tYes σ H (fun b H3 => if b = true then A H3 else B H3) := iteT (A := A H) (B := B H) h
section
variable {K : PySem.W.Frag} {a : Addr} {xs ys : List V} {j : Nat} {te : TE} {vs : List Nat} {σ : L2.St} {H1 : Hp} {D : Addr} {Qd : Hp → Prop}
theorem lc_vals (hy : ys.length = xs.length) (ha : H1 a = some (.lst xs)) (hD : H1 D = none) (hl : xs.length ≤ 1000) (hw : ∀ x, wipe ((wipe σ vs).set j (some x)) vs = wipe σ vs)
    (he : ∀ (i : Nat) (x y : V), xs[i]? = some x → ys[i]? = some y → ∀ H', Same H1 H' → ∀ Qe : VK, (∀ H'', Same H' H'' → Qe y H'') → te ((wipe σ vs).set j (some x)) H' Qe)
    (k : ∀ H', Same H1 H' → H' D = some (.lst ys) → Qd H') :
    ∃ W : Nat → Nat → Hp → Prop, (∃ m, W 0 m (upd H1 D (.lst []))) ∧ ∀ i m H, W i m H →
      ((Itl K a).stop i H ∧ Qd H) ∨ ((Itl K a).go i H ∧ ∃ Nx : Hp → Prop, (∀ H', Nx H' → ∃ m', m' < m ∧ W (i + 1) m' H') ∧ ∀ x H', (Itl K a).yld i H x H' → gName j x (wipe σ vs) H' fun σ2 H2 => wipe σ2 vs = wipe σ vs ∧ tYes σ2 H2 fun b H3 =>
        if b = true then te σ2 H3 fun y H4 => ∃ acc, H4 D = some (.lst acc) ∧ acc.length < sizeLine ∧ Nx (upd H4 D (.lst (acc ++ [y]))) else Nx H3) := by
  refine lc_it (walk_list (xs := xs)) (fun i H' => Same H1 H' ∧ H' D = some (.lst (ys.take i))) ⟨same_new hD, upd_same⟩ (fun i H' _ h => SqL.of (h.1 _ _ ha)) ?_ ?_
  · rintro i x H' H2 hi ⟨s', hD'⟩ ⟨rfl, hx⟩
    have hi2 : i < ys.length := by omega
    refine ⟨hw _, yes_of ?_⟩
    refine he i x ys[i] hx (List.getElem?_eq_getElem hi2) H2 s' _ fun H3 s3 => ?_
    refine ⟨_, s3 _ _ hD', ?_, fun b o q => ?_, ?_⟩
    · rw [List.length_take]
      exact Nat.lt_of_le_of_lt (show min i ys.length ≤ 1000 by omega) (by decide)
    · rw [upd_ne (ne_of_none q hD)]
      exact s3 _ _ (s' _ _ q)
    · rw [upd_same, List.take_succ, List.getElem?_eq_getElem hi2]
      rfl
  · rintro H' ⟨s', hD'⟩
    rw [← hy, List.take_length] at hD'
    exact k H' s' hD'
/-- the same over a tuple -/
theorem lc_valsT (hy : ys.length = xs.length) (ha : H1 a = some (.tup xs)) (hD : H1 D = none) (hl : xs.length ≤ 1000) (hw : ∀ x, wipe ((wipe σ vs).set j (some x)) vs = wipe σ vs)
    (he : ∀ (i : Nat) (x y : V), xs[i]? = some x → ys[i]? = some y → ∀ H', Same H1 H' → ∀ Qe : VK, (∀ H'', Same H' H'' → Qe y H'') → te ((wipe σ vs).set j (some x)) H' Qe)
    (k : ∀ H', Same H1 H' → H' D = some (.lst ys) → Qd H') :
    ∃ W : Nat → Nat → Hp → Prop, (∃ m, W 0 m (upd H1 D (.lst []))) ∧ ∀ i m H, W i m H →
      ((Itt K a).stop i H ∧ Qd H) ∨ ((Itt K a).go i H ∧ ∃ Nx : Hp → Prop, (∀ H', Nx H' → ∃ m', m' < m ∧ W (i + 1) m' H') ∧ ∀ x H', (Itt K a).yld i H x H' → gName j x (wipe σ vs) H' fun σ2 H2 => wipe σ2 vs = wipe σ vs ∧ tYes σ2 H2 fun b H3 =>
        if b = true then te σ2 H3 fun y H4 => ∃ acc, H4 D = some (.lst acc) ∧ acc.length < sizeLine ∧ Nx (upd H4 D (.lst (acc ++ [y]))) else Nx H3) := by
  refine lc_it (walk_tup (xs := xs)) (fun i H' => Same H1 H' ∧ H' D = some (.lst (ys.take i))) ⟨same_new hD, upd_same⟩ (fun i H' _ h => SqT.of (h.1 _ _ ha)) ?_ ?_
  · rintro i x H' H2 hi ⟨s', hD'⟩ ⟨rfl, hx⟩
    have hi2 : i < ys.length := by omega
    refine ⟨hw _, yes_of ?_⟩
    refine he i x ys[i] hx (List.getElem?_eq_getElem hi2) H2 s' _ fun H3 s3 => ?_
    refine ⟨_, s3 _ _ hD', ?_, fun b o q => ?_, ?_⟩
    · rw [List.length_take]
      exact Nat.lt_of_le_of_lt (show min i ys.length ≤ 1000 by omega) (by decide)
    · rw [upd_ne (ne_of_none q hD)]
      exact s3 _ _ (s' _ _ q)
    · rw [upd_same, List.take_succ, List.getElem?_eq_getElem hi2]
      rfl
  · rintro H' ⟨s', hD'⟩
    rw [← hy, List.take_length] at hD'
    exact k H' s' hD'
end
end Cs

set_option Elab.async false
set_option linter.all false
set_option maxRecDepth 100000
set_option maxHeartbeats 4000000
/-! Defs of an own class that say super().m(..): judged where the def's own code runs. -/
namespace Cs
open PySem PySem.W PySem.Spec L2 NdefX
/-! ### judgements at the def's own code -/
section
variable (X : Cx) (b : List Stmt)
structure PEA (e : Expr) (t : TE) : Prop where
  run : ∀ (pins : List (Addr × Obj)) (s : Shared) (σ : L2.St) (H : Hp) (Q : VK), Inv X pins σ H s → t σ H Q → PySem.wpAt (model X.prog X.w) X.A (.func b X.env) (eval e X.env) (EP X pins σ Q) X.xe s
structure PSA (st : Stmt) (t : TS) : Prop where
  run : ∀ (pins : List (Addr × Obj)) (s : Shared) (σ : L2.St) (H : Hp) (D : Ends), Inv X pins σ H s → t D σ H → PySem.wpAt (model X.prog X.w) X.A (.func b X.env) (exec st X.env) (SP X pins D) X.xe s
structure PSsA (sts : List Stmt) (t : TS) : Prop where
  run : ∀ (pins : List (Addr × Obj)) (s : Shared) (σ : L2.St) (H : Hp) (D : Ends), Inv X pins σ H s → t D σ H → PySem.wpAt (model X.prog X.w) X.A (.func b X.env) (execs sts X.env) (SP X pins D) X.xe s
end
section
variable {X : Cx} {b : List Stmt} {e e2 : Expr} {te te2 : TE} {st : Stmt} {sts : List Stmt} {t u : TS} {pos : Pos}
theorem PEA.of (h : PE X e te) : PEA X b e te := ⟨fun pins s σ H Q I q => wpAt_of_wpAny (h.run pins s σ H Q I q)⟩
theorem PSA.of (h : PS X st t) : PSA X b st t := ⟨fun pins s σ H D I q => wpAt_of_wpAny (h.run pins s σ H D I q)⟩
theorem PSsA.of (h : PSs X sts t) : PSsA X b sts t := ⟨fun pins s σ H D I q => wpAt_of_wpAny (h.run pins s σ H D I q)⟩
theorem pssa_cons (h1 : PSA X b st t) (h2 : PSsA X b sts u) : PSsA X b (st :: sts) (tSeq t u) := by
  refine ⟨fun pins s σ H D I h => ks_wpAt_execs_cons (ks_wpAt_mono (h1.run pins s σ H { D with nx := u D } I h) (fun f s1 q => ?_) fun _ _ z => z)⟩
  cases f with
  | next =>
    obtain ⟨σ', H', I', q⟩ := q
    exact h2.run pins s1 σ' H' D I' q
  | ret v => exact q
  | brk => exact q
  | cont => exact q
theorem pssa_one (h1 : PSA X b st t) : PSsA X b [st] t := by
  refine ⟨fun pins s σ H D I h => ks_wpAt_execs_cons (ks_wpAt_mono (h1.run pins s σ H D I h) (fun f s1 q => ?_) fun _ _ z => z)⟩
  cases f with
  | next => exact wpAt_of_wpAny (wpAny_execs_nil q)
  | ret v => exact q
  | brk => exact q
  | cont => exact q
theorem psa_expr (he : PEA X b e te) (hs : swapsWith e none pos.line X.env = pure false := by rfl) : PSA X b (.Expr e pos) (tDrop te) :=
  ⟨fun pins s σ H D I h => ks_wpAt_Expr_any (ks_wpAt_mono (he.run pins s σ H _ I h) (fun v s1 ⟨x, H1, I1, r1, q1⟩ => ⟨σ, H1, I1, q1⟩) fun _ _ z => z) I.quiet hs⟩
theorem psa_ret (he : PEA X b e te) : PSA X b (.Return (some e) pos) (tRet te) :=
  ⟨fun pins s σ H D I h => ks_wpAt_Return_some (ks_wpAt_mono (he.run pins s σ H _ I h) (fun v s1 ⟨x, H1, I1, r1, q1⟩ => ⟨x, σ, H1, I1, r1, q1⟩) fun _ _ z => z)⟩
theorem psa_if {c : Expr} {a o : List Stmt} {tc : TT} (hc : PT X c tc) (ha : PSsA X b a t) (hb : PSsA X b o u) : PSA X b (.If c a o pos) (tIfS tc t u) := by
  refine ⟨fun pins s σ H D I h => ks_wpAt_If (ks_wpAt_mono (wpAt_of_wpAny (hc.run pins s σ H _ I h)) (fun d s1 ⟨H1, I1, q1⟩ => ?_) fun _ _ z => z)⟩
  cases d with
  | true => exact ha.run pins s1 σ H1 D I1 q1
  | false => exact hb.run pins s1 σ H1 D I1 q1
theorem pea_op {op : Operator} {r : R2} (ho : OpR X (binaryOp op) r) (ha : PEA X b e te) (hb : PE X e2 te2) : PEA X b (.BinOp e op e2 pos) (tOp r te te2) := by
  refine ⟨fun pins s σ H Q I h => ks_wpAt_BinOp (ks_wpAt_mono (ha.run pins s σ H _ I h) (fun v s1 ⟨x, H1, I1, r1, q1⟩ => ?_) fun _ _ z => z)⟩
  exact thn (hb.run pins s1 σ H1 _ I1 q1) fun u s2 ⟨y, H2, I2, r2, q2⟩ => ho pins s2 σ H2 x y v u Q I2 r1 r2 q2
end
/-! ### super().m(..) -/
/-- what the text tells of a def that says super(): its class, its cell, its code -/
structure SupT (X : Cx) (f cda cc D : Addr) (ar : Str) : Prop where
  ks : X.env.kindOf "super" = some .globalImplicit
  kc : X.env.kindOf "__class__" = some .free
  fu : X.env.func = some f
  co : X.env.code = .ref cda
  cl : X.env.cells.lookup ("__class__" : Str) = some cc
  fn : ∃ oc od fd osl, X.K.lookup f = some ⟨oc, od, .func fd, osl⟩ ∧ ∃ a, (fd.params.posonlyargs ++ fd.params.args).head? = some a ∧ a.arg = ar
  code : ∃ ccl cdd vs ccs file tf, X.K.lookup cda = some ⟨ccl, cdd, .fields vs, ccs⟩ ∧ vs[2]? = some (.str file tf) ∧ ((X.prog.main.file : Str) == file) = true
  cell : ∃ cl cld csl, X.K.lookup cc = some ⟨cl, cld, .cell (some (.ref D)), csl⟩
  isD : PySem.W.isClsIn X.K D = true
  top : (X.prog.main.scope.names.lookup ("super" : Str)).isSome = false
  mg : X.mg "super" = none
  opq : PySem.W.nsIn X.K cStatics "thirdparty.any" = some none
  karg : X.env.kindOf ar = some .local
/-- from an object of the class at C, above D, the def found is f2 -/
structure Sup (K : PySem.W.Frag) (C D : Addr) (m : Str) (f2 : Addr) : Prop where
  sub : PySem.W.mroIn K C (.ref D) = some true
  at_ : PySem.W.ks_superIn K C D m = some (some (.ref f2))
  ty : PySem.W.typeIn K (.ref f2) = some (.type "function")
  fi : PySem.W.fnIn K f2 = true
theorem boot_super : bootBuiltins "super" = some (.type "super") := by decide +kernel
section
variable {X : Cx} {b : List Stmt} {CX : CXT} {k i : Nat} {f cda cc D : Addr} {ar m : Str} {E : XK} {p0 p1 sp_ apos pos : Pos} {e : Expr} {es : List Expr} {te : TE} {t : TA} {pl : Sem Bool}
/-- the object, the def found above, its promise -/
def SupAt (X : Cx) (CX : CXT) (k i : Nat) (D : Addr) (m : Str) (σ : L2.St) (H : Hp) (a : Addr) (sp : Sp) : Prop := ∃ C dx fs f2, σ[i]? = some (some (.ref a)) ∧ H a = some (.ins C dx fs) ∧ Sup X.K C D m f2 ∧ FnR X.prog X.w X.K X.mg X.base CX k f2 sp
/-- super() and the method behind it -/
theorem sup_meth {pins : List (Addr × Obj)} {s : Shared} {σ : L2.St} {H : Hp} {a : Addr} {sp : Sp} {whole : Sem Value} {Q : Value × List Value → Shared → Prop} (T : SupT X f cda cc D ar) (hN : X.N[i]? = some ar) (hm : (m == ("__class__" : Str)) = false) (I : Inv X pins σ H s) (h : SupAt X CX k i D m σ H a sp)
    (hq : ∀ q f2 s', X.base.get? q = none → PySem.W.fnIn X.K f2 = true → FnR X.prog X.w X.K X.mg X.base CX k f2 sp → Inv X ((q, PySem.W.methodObj (.ref f2) (.ref a)) :: pins) σ H s' → Q (.ref q, []) s') :
    PySem.wpAt (model X.prog X.w) X.A (.func b X.env) (attributeBase (.Call (.Name "super" p0) [] [] p1) m X.env whole) (fun ov s1 => wpAny (model X.prog X.w) X.A (getMethod ov m pl) Q X.xe s1) X.xe s := by
  obtain ⟨C, dx, fs, f2, hs, ha, S, F⟩ := h
  obtain ⟨oc, od, fd, osl, lf, ar', hp, ea⟩ := T.fn
  obtain ⟨ccl, cdd, vs, ccs, file, tf, lc, hvs, hfile⟩ := T.code
  obtain ⟨cl, cld, csl, lcell⟩ := T.cell
  obtain ⟨cdD, hD⟩ := Option.isSome_iff_exists.mp (show (PySem.W.clsIn X.K D).isSome = true from T.isD)
  obtain ⟨mA, O, _⟩ := ins_get I.hok ha
  obtain ⟨oi, J, _⟩ := O.look
  obtain ⟨mL, hloc, hlk⟩ := I.loc
  obtain ⟨u, ru, lk⟩ := hlk i ar (.ref a) hN hs (.inl T.karg)
  obtain rfl : u = Value.ref a := ru
  have hma : mL ar = some (.ref a) := by
    rcases lk with ⟨_, q⟩ | ⟨q, _⟩
    · exact q
    · rcases q with q | q <;> (rw [T.karg] at q; cases q)
  subst ea
  obtain ⟨oD, hD1, hD2⟩ : ∃ oD, s.heap.get? D = some oD ∧ oD.data = .cls cdD := by
    unfold PySem.W.clsIn at hD
    split at hD
    · rename_i c d cd' sl ho
      cases hD
      exact ⟨_, I.kIn _ _ ho, rfl⟩
    · cases hD
  refine ks_wpAt_super_base T.ks T.kc hm T.fu (I.kIn _ _ lf) rfl hp T.co (I.kIn _ _ lc) rfl hvs hfile T.top ?_
  obtain ⟨mb, hb1, hb2⟩ := I.mod.blt
  refine PySem.W.ks_loadName_global I.ok.kind T.ks (Calls.loadGlobal_builtin (by rw [I.ok.glob]; exact I.mod.glob.keeps I.bk) T.mg (by rw [I.ok.blt]; exact hb1.keeps I.bk) ((hb2 _ (by decide)).trans boot_super) ⟨rfl, ?_⟩)
  refine wpAny_loadName_free I.ok.kind T.kc T.cl ⟨_, I.kIn _ _ lcell, rfl⟩ ?_
  refine wpAny_loadName_local I.ok.kind T.karg hloc hma ?_
  obtain ⟨hh, g, dr, tk, os⟩ := s
  refine ks_wpAny_isType_cls hD1 hD2 ⟨rfl, ?_⟩
  refine ks_wpAny_call_super hD1 hD2 J.at_ J.cls (fun c e => ?_) (PySem.W.looks_mroIn I.kIn S.sub) (fun h' eso kp => ?_)
  · have := J.no
    unfold PySem.W.notCls at this
    rw [e] at this
    exact Bool.noConfusion this
  · have I2 : Inv X pins σ H { (⟨hh, g, dr, tk, os⟩ : Shared) with heap := h' } := I.kept (t' := tk) kp
    have hz : hh.objs.size < h'.objs.size := Heap.lt_size eso
    cases hc : PySem.W.clsIn X.K C with
    | none =>
      have := S.at_
      unfold PySem.W.ks_superIn at this
      rw [hc] at this
      cases this
    | some cd =>
      have hs2 := S.at_
      unfold PySem.W.ks_superIn at hs2
      rw [hc] at hs2
      obtain ⟨of, hof, hofc⟩ : ∃ of, h'.get? f2 = some of ∧ of.cls = .type "function" := by
        have ht' : (X.K.lookup f2).map (·.cls) = some (.type "function") := S.ty
        cases z : X.K.lookup f2 with
        | none => rw [z] at ht'; cases ht'
        | some of => rw [z] at ht'; exact ⟨of, I2.kIn _ _ z, Option.some.inj ht'⟩
      have J2 : PySem.W.InstAt h' a (instObj C dx) C (some oi) := ⟨kp _ _ J.at_, J.cls, J.no, kp _ _ J.dict⟩
      refine ks_wpAny_getMethod_super eso (PySem.W.looks_opaque I2.kIn T.opq) (l₀ := cd.mro) (fun A Q E s k q => wpAny_bind ((PySem.W.looks_clsIn I2.kIn hc) A _ E s k (wpAny_pure q))) rfl I2.kIn hs2 hof hofc (PySem.W.ks_ne I2.kIn J2 hc) hm ?_
      exact hq _ f2 _ (ClX.base_none I2 (Nat.le_refl _)) S.fi F (ClX.met_new I2)
end
/-- o.m of a super object, read as an attribute -/
theorem getAttr_super {prog : Program} {w : World} {A : Around} {E : Value → Shared → Prop} {h : Heap} {g : Array GenState} {d : Drawn} {t : Nat} {os : OsState} {so D x C f : Addr} {of : Obj} {l₀ l : List Value} {K : Frag} {name : Str} {Q : Value → Shared → Prop}
    (hso : h.get? so = some { cls := .type "super", dict := none, data := .fields #[.ref D, .ref x, .ref C], slots := #[] }) (hno : Looks (model prog w) h (opaqueClassAbove (.ref C)) none)
    (hC : Looks (model prog w) h (mroOf (.ref C)) l₀) (hl : (l₀.dropWhile (· != .ref D)).drop 1 = l) (X : K.In h)
    (hf : alongIn K name l = some (some (.ref f))) (hfo : h.get? f = some of) (hfc : of.cls = .type "function") (hxC : x ≠ C) (hn : (name == ("__class__" : Str)) = false)
    (hq : Q (.ref h.objs.size) ⟨h.push { cls := .type "method", data := .fields #[.ref f, .ref x] }, g, d, t + 1, os⟩) : wpAny (model prog w) A (getAttr (.ref so) name true) Q E ⟨h, g, d, t, os⟩ := by
  have hlk := F.ks_slot_super_ga.lookup
  have tyS : ∀ t', (⟨h, g, d, t', os⟩ : Shared).TypeIs (.ref so) "super" := fun _ => ⟨_, hso, rfl⟩
  unfold getAttr getAttrBy
  refine wpAny_bind (wpAny_mkText (wpAny_holding (wpAny_bind (wpAny_typeOf (tyS _) (wpAny_bind (wpAny_of_eq hlk ?_))))))
  show wpAny _ _ (getAttrByItsOwn (.ref so) (.str name t) (.type "super") (.builtin "super.__getattribute__") _ _) _ _ _
  unfold getAttrByItsOwn hookBefore callGetattribute boundAndCalled
  refine wpAny_bind (wpAny_of_eq (show (if onTheHeap (.type "super") then typeLookup (.type "super") "__getattr__" else pure none) = pure none from rfl) ?_)
  refine wpAny_bind (wpAny_attempt (wpAny_holding ?_))
  show wpAny _ _ (bindSpecial (.builtin "super.__getattribute__") (.ref so) >>= _) _ _ _
  refine wpAny_bind (wpAny_of_eq (F.ks_slot_super_ga.bind _) ?_)
  refine wpAny_mono (Q := fun v s' => v = .ref h.objs.size ∧ s' = ⟨h.push { cls := .type "method", data := .fields #[.ref f, .ref x] }, g, d, t + 1, os⟩) (E := fun _ _ => False)
    (wpAny_call_entry F.ks_slot_super_ga (tyS _) F.ks_entry_super_ga (ks_wpAny_super_ga hso hno hC hl X hf hfo hfc hxC hn ⟨_, rfl, rfl, rfl⟩) (F.ks_gaArgs_super _ _)) (fun v s' hv => ?_) fun _ _ z => z.elim
  obtain ⟨rfl, rfl⟩ := hv
  exact wpAny_pure hq
/-- o.m(.., *y) where the def's own code runs -/
theorem at_starcall {M : Model} {A : Around} {c : Code} {E : Value → Shared → Prop} {s : Shared} {env : Env} {o : Expr} {name : Str} {apos pos : Pos} {args : List Expr} {Q : Value → Shared → Prop} (hform : methodCallForm (args.length + ([] : List Keyword).length) (backTo pos (starEach args env)) (backToKw pos (keywordEach [] env)) = false)
    (h : PySem.wpAt M A c (attributeBase o name env (eval o env)) (fun ov s₁ => wpAny M A (getAttr ov name true) (fun f s₂ => wpAny M A (callWith pos f [] (backTo pos (starEach args env)) []) Q E s₂) E s₁) E s) : PySem.wpAt M A c (eval (.Call (.Attribute o name apos) args [] pos) env) Q E s := by
  rw [arm_eval_Call]
  refine PySem.wpAt_bind (PySem.wpAt_mono h (fun ov s₁ h₁ => wpAt_of_wpAny (wpAny_bind (wpAny_standAt ?_))) fun _ _ x => x)
  unfold methodCall
  rw [hform]
  refine wpAny_bind (wpAny_holding (wpAny_bind (wpAny_mono h₁ (fun f s₂ h₂ => wpAny_pure ?_) fun _ _ x => x)))
  exact wpAny_bind (wpAny_pure h₂)
section
variable {X : Cx} {b : List Stmt} {CX : CXT} {k i : Nat} {f cda cc D : Addr} {ar m : Str} {E : XK} {p0 p1 sp_ apos pos : Pos} {e : Expr} {es : List Expr} {te : TE} {t : TA} {pl : Sem Bool}
/-- super() and the method behind it, read as an attribute -/
theorem sup_attr {pins : List (Addr × Obj)} {s : Shared} {σ : L2.St} {H : Hp} {a : Addr} {sp : Sp} {whole : Sem Value} {Q : Value → Shared → Prop} (T : SupT X f cda cc D ar) (hN : X.N[i]? = some ar) (hm : (m == ("__class__" : Str)) = false) (I : Inv X pins σ H s) (h : SupAt X CX k i D m σ H a sp)
    (hq : ∀ q f2 s', X.base.get? q = none → PySem.W.fnIn X.K f2 = true → FnR X.prog X.w X.K X.mg X.base CX k f2 sp → Inv X ((q, PySem.W.methodObj (.ref f2) (.ref a)) :: pins) σ H s' → Q (.ref q) s') :
    PySem.wpAt (model X.prog X.w) X.A (.func b X.env) (attributeBase (.Call (.Name "super" p0) [] [] p1) m X.env whole) (fun ov s1 => wpAny (model X.prog X.w) X.A (getAttr ov m true) Q X.xe s1) X.xe s := by
  obtain ⟨C, dx, fs, f2, hs, ha, S, F⟩ := h
  obtain ⟨oc, od, fd, osl, lf, ar', hp, ea⟩ := T.fn
  obtain ⟨ccl, cdd, vs, ccs, file, tf, lc, hvs, hfile⟩ := T.code
  obtain ⟨cl, cld, csl, lcell⟩ := T.cell
  obtain ⟨cdD, hD⟩ := Option.isSome_iff_exists.mp (show (PySem.W.clsIn X.K D).isSome = true from T.isD)
  obtain ⟨mA, O, _⟩ := ins_get I.hok ha
  obtain ⟨oi, J, _⟩ := O.look
  obtain ⟨mL, hloc, hlk⟩ := I.loc
  obtain ⟨u, ru, lk⟩ := hlk i ar (.ref a) hN hs (.inl T.karg)
  obtain rfl : u = Value.ref a := ru
  have hma : mL ar = some (.ref a) := by
    rcases lk with ⟨_, q⟩ | ⟨q, _⟩
    · exact q
    · rcases q with q | q <;> (rw [T.karg] at q; cases q)
  subst ea
  obtain ⟨oD, hD1, hD2⟩ : ∃ oD, s.heap.get? D = some oD ∧ oD.data = .cls cdD := by
    unfold PySem.W.clsIn at hD
    split at hD
    · rename_i c d cd' sl ho
      cases hD
      exact ⟨_, I.kIn _ _ ho, rfl⟩
    · cases hD
  refine ks_wpAt_super_base T.ks T.kc hm T.fu (I.kIn _ _ lf) rfl hp T.co (I.kIn _ _ lc) rfl hvs hfile T.top ?_
  obtain ⟨mb, hb1, hb2⟩ := I.mod.blt
  refine PySem.W.ks_loadName_global I.ok.kind T.ks (Calls.loadGlobal_builtin (by rw [I.ok.glob]; exact I.mod.glob.keeps I.bk) T.mg (by rw [I.ok.blt]; exact hb1.keeps I.bk) ((hb2 _ (by decide)).trans boot_super) ⟨rfl, ?_⟩)
  refine wpAny_loadName_free I.ok.kind T.kc T.cl ⟨_, I.kIn _ _ lcell, rfl⟩ ?_
  refine wpAny_loadName_local I.ok.kind T.karg hloc hma ?_
  obtain ⟨hh, g, dr, tk, os⟩ := s
  refine ks_wpAny_isType_cls hD1 hD2 ⟨rfl, ?_⟩
  refine ks_wpAny_call_super hD1 hD2 J.at_ J.cls (fun c e => ?_) (PySem.W.looks_mroIn I.kIn S.sub) (fun h' eso kp => ?_)
  · have := J.no
    unfold PySem.W.notCls at this
    rw [e] at this
    exact Bool.noConfusion this
  · have I2 : Inv X pins σ H { (⟨hh, g, dr, tk, os⟩ : Shared) with heap := h' } := I.kept (t' := tk) kp
    have hz : hh.objs.size < h'.objs.size := Heap.lt_size eso
    cases hc : PySem.W.clsIn X.K C with
    | none =>
      have := S.at_
      unfold PySem.W.ks_superIn at this
      rw [hc] at this
      cases this
    | some cd =>
      have hs2 := S.at_
      unfold PySem.W.ks_superIn at hs2
      rw [hc] at hs2
      obtain ⟨of, hof, hofc⟩ : ∃ of, h'.get? f2 = some of ∧ of.cls = .type "function" := by
        have ht' : (X.K.lookup f2).map (·.cls) = some (.type "function") := S.ty
        cases z : X.K.lookup f2 with
        | none => rw [z] at ht'; cases ht'
        | some of => rw [z] at ht'; exact ⟨of, I2.kIn _ _ z, Option.some.inj ht'⟩
      have J2 : PySem.W.InstAt h' a (instObj C dx) C (some oi) := ⟨kp _ _ J.at_, J.cls, J.no, kp _ _ J.dict⟩
      refine getAttr_super eso (PySem.W.looks_opaque I2.kIn T.opq) (l₀ := cd.mro) (fun A Q E s k q => wpAny_bind ((PySem.W.looks_clsIn I2.kIn hc) A _ E s k (wpAny_pure q))) rfl I2.kIn hs2 hof hofc (PySem.W.ks_ne I2.kIn J2 hc) hm ?_
      exact hq _ f2 _ (ClX.base_none I2 (Nat.le_refl _)) S.fi F (ClX.met_new I2)
/-- super().m(*e) -/
def tSup1 (X : Cx) (CX : CXT) (k i : Nat) (D : Addr) (m : Str) (E : XK) (te : TE) : TE := fun σ H Q => ∃ a sp, SupAt X CX k i D m σ H a sp ∧ te σ H fun y H1 => ∃ q xs, y = V.ref q ∧ (SqT X.K H1 q xs ∨ SqL X.K H1 q xs) ∧ sp (.ref a :: xs) H1 Q E
theorem pea_sup1 (T : SupT X f cda cc D ar) (hN : X.N[i]? = some ar) (hr : Room k X.A) (hx : Passes CX X E) (he : PE X e te) (hm : (m == ("__class__" : Str)) = false := by decide) (hst : starEach [.Starred e sp_] X.env = [(true, eval e X.env)] := by rfl) (hform : methodCallForm ([Expr.Starred e sp_].length + ([] : List Keyword).length) (backTo pos (starEach [.Starred e sp_] X.env)) (backToKw pos (keywordEach [] X.env)) = false := by rfl) :
    PEA X b (.Call (.Attribute (.Call (.Name "super" p0) [] [] p1) m apos) [.Starred e sp_] [] pos) (tSup1 X CX k i D m E te) := by
  refine ⟨fun pins s σ H Q I h => ?_⟩
  obtain ⟨a, sp, hs, h⟩ := h
  refine at_starcall hform (sup_attr T hN hm I hs fun q f2 s1 hb hf F I1 => ?_)
  show wpAny _ _ (callWith pos (.ref q) [] (backTo pos (starEach [.Starred e sp_] X.env)) []) _ _ _
  rw [hst]
  refine PySem.W.ks_call rfl (PySem.W.keeps_M (self := .ref a) hf) (PySem.W.ks_lone (thn (he.run _ s1 σ H _ I1 h) fun v s2 ⟨y, H1, I2, ry, qq, xs, ey, hxs, q2⟩ => ?_))
  subst ey
  obtain rfl : v = Value.ref qq := ry
  exact StX.star_any I2 hxs fun us s3 I3 rv => ⟨⟨ClX.pin_at I3, I3.kIn⟩, ClX.run_cm F hr hx I3 rv q2⟩
/-- super().m(e, .., *y) -/
def tSup (X : Cx) (CX : CXT) (k i : Nat) (D : Addr) (m : Str) (E : XK) (t : TA) : TE := fun σ H Q => ∃ a sp, SupAt X CX k i D m σ H a sp ∧ t σ H fun vs H1 => sp (.ref a :: vs) H1 Q E
theorem pea_sup2 (T : SupT X f cda cc D ar) (hN : X.N[i]? = some ar) (hr : Room k X.A) (hx : Passes CX X E) (ha : PA X (e :: es) t) (hm : (m == ("__class__" : Str)) = false := by decide)
    (he : starEach (e :: es) X.env = (false, eval e X.env) :: starEach es X.env := by rfl) (hst : (backTo pos (starEach es X.env)).any (·.1) = true := by rfl) (hform : methodCallForm ((e :: es).length + ([] : List Keyword).length) (backTo pos (starEach (e :: es) X.env)) (backToKw pos (keywordEach [] X.env)) = false := by rfl) :
    PEA X b (.Call (.Attribute (.Call (.Name "super" p0) [] [] p1) m apos) (e :: es) [] pos) (tSup X CX k i D m E t) := by
  refine ⟨fun pins s σ H Q I h => ?_⟩
  obtain ⟨a, sp, hs, h⟩ := h
  refine at_starcall hform (sup_attr T hN hm I hs fun q f2 s1 hb hf F I1 => ?_)
  show wpAny _ _ (callWith pos (.ref q) [] (backTo pos (starEach (e :: es) X.env)) []) _ _ _
  have z := ha.run pos _ s1 σ H _ I1 h
  rw [he] at z ⊢
  refine PySem.W.ks_call (by show (false || (backTo pos (starEach es X.env)).any (·.1)) = true; rw [hst]; rfl) (PySem.W.keeps_M (self := .ref a) hf) (PySem.Calls.evalArgs_plain (thn z fun us s2 ⟨vs, H1, I2, rv, q2⟩ => ?_))
  exact ⟨⟨ClX.pin_at I2, I2.kIn⟩, ClX.run_cm F hr hx I2 rv q2⟩
/-- super().m(e, ..) -/
theorem pea_sup (T : SupT X f cda cc D ar) (hN : X.N[i]? = some ar) (hr : Room k X.A) (hx : Passes CX X E) (ha : PA X (e :: es) t) (hm : (m == ("__class__" : Str)) = false := by decide)
    (he : starEach (e :: es) X.env = (false, eval e X.env) :: starEach es X.env := by rfl) (hpl : (backTo pos (starEach es X.env)).any (·.1) = false := by rfl)
    (hc : eval (.Call (.Attribute (.Call (.Name "super" p0) [] [] p1) m apos) (e :: es) [] pos) X.env = (do
      let ov ← attributeBase (.Call (.Name "super" p0) [] [] p1) m X.env (eval (.Call (.Name "super" p0) [] [] p1) X.env)
      standAt apos.atName
      let (f, first) ← holding [ov] (getMethod ov m pl)
      callWith pos f first (backTo pos (starEach (e :: es) X.env)) []) := by rfl) :
    PEA X b (.Call (.Attribute (.Call (.Name "super" p0) [] [] p1) m apos) (e :: es) [] pos) (tSup X CX k i D m E t) := by
  refine ⟨fun pins s σ H Q I h => ?_⟩
  obtain ⟨a, sp, hs, h⟩ := h
  refine ks_wpAt_MethodCall (pl := pl) (sup_meth T hN hm I hs fun q f2 s1 hb hf F I1 => ?_) hc
  refine ClX.callwith_cm I1 hb hf (thn (ha.run pos _ s1 σ H _ I1 h) fun us s2 ⟨vs, H1, I2, rv, q2⟩ => ⟨⟨ClX.pin_at I2, I2.kIn⟩, ?_⟩) he hpl
  exact ClX.run_cm F hr hx I2 rv q2
end
/-! ### the def by its body -/
/-- the text of such a def -/
def nfOf (st : Stmt) (x qual : Str) (cda cc : Addr) : NF := ⟨x, qual, defArgs st, defBody st, defScope st, [("__class__", cc)], cda⟩
structure FunS (K : PySem.W.Frag) (x qual : Str) (st : Stmt) (f cda cc D : Addr) (kV doc pm ct : Value) (an : Option Addr) : Prop where
  lk : ∃ oc od osl, K.lookup f = some ⟨oc, od, .func (PySem.W.ksFn x qual (defArgs st) (defBody st) (defScope st) .none kV doc pm an (.ref cda) ct cc), osl⟩
  code : PySem.W.codeIn K (.ref cda) qual = true
  cell : ∃ cl cld csl, K.lookup cc = some ⟨cl, cld, .cell (some (.ref D)), csl⟩
section
variable {CX : CXT} {P : Program} {w : World} {K : PySem.W.Frag} {mg : Str → Option Value} {base : Heap} {k : Nat} {f cda cc D : Addr} {x qual : Str} {st : Stmt} {kV doc pm ct : Value} {an : Option Addr} {N ps : List Str}
theorem cells_super {s : Shared} {H : Hp} {A : Around} {outer : List Env} (F : FunS K x qual st f cda cc D kV doc pm ct an) (e0 : Env0 P w K mg base A outer s H) : CellsAt (nfOf st x qual cda cc).cl ["__class__"] [some (.ref D)] s.heap H := by
  obtain ⟨cl, cld, csl, lc⟩ := F.cell
  have hb := e0.mod.kin _ _ lc
  have h1 := e0.bs _ _ hb
  have look : ∀ y c, (nfOf st x qual cda cc).cl.lookup y = some c → y = "__class__" ∧ c = cc := fun y c q => by
    have q : ([("__class__", cc)] : List (Str × Addr)).lookup y = some c := q
    rw [List.lookup_cons] at q
    by_cases e : (y == ("__class__" : Str)) = true
    · rw [e] at q
      exact ⟨eq_of_beq e, (Option.some.inj q).symm⟩
    · rw [Bool.eq_false_iff.mpr e] at q
      cases q
  refine ⟨rfl, fun y c q => ?_, fun a b c q1 q2 => ?_, fun i y q => ?_⟩
  · obtain ⟨_, rfl⟩ := look y c q
    exact ⟨h1.2, _, ⟨_, h1.1, rfl⟩⟩
  · rw [(look a c q1).1, (look b c q2).1]
  · cases i with
    | zero =>
      obtain rfl : ("__class__" : Str) = y := Option.some.inj q
      refine ⟨cc, rfl, fun v hv => ?_⟩
      obtain rfl : V.ref D = v := Option.some.inj (Option.some.inj hv)
      exact ⟨.ref D, rfl, _, h1.1, rfl⟩
    | succ i => cases q
theorem run_sup {A : Around} {outer : List Env} {s : Shared} {H : Hp} {args : Args} {Q : VK} {E : XK} {G : List V → Hp → Prop} (F : FunS K x qual st f cda cc D kV doc pm ct an) (S : NScope N ps ["__class__"] (defScope st)) (hr : Room (k + 1) A) (e0 : Env0 P w K mg base A outer s H)
    (hb : StX.Bnd CX P w K mg base (PySem.W.ksFn x qual (defArgs st) (defBody st) (defScope st) .none kV doc pm an (.ref cda) ct cc) args ps A outer s H E G)
    (hbody : ∀ (s2 : Shared) (H2 : Hp) (vs : List V), G vs H2 → Room k (A.deeper (envF (nfOf st x qual cda cc) f s2.heap.objs.size)) →
      ∃ t, PSsA (ncx CX P w K mg base N (nfOf st x qual cda cc) f A outer s2 H2 E) (defBody st) (defBody st) t ∧ t { nx := fun _ H' => Q .non H', rt := Q } (startF N vs [some (.ref D)]) H2) :
    codeAny (model P w) A (.call (.ref f) args) (CR CX outer P w H s Q E) s := by
  have KX : K.In s.heap := e0.mod.kin.keeps fun b o e => (e0.bs b o e).1
  obtain ⟨oc, od, osl, lk⟩ := F.lk
  refine codeAny_call_function hr.depth (KX _ _ lk) rfl S.co S.gen rfl (PySem.W.codeRec_of KX F.code) ?_
  refine hb _ _ _ fun s2 H2 vs us e2 un ho hx r hl g => ?_
  have lim : s2.heap.NoLimit := e0.mod.nolimit.keeps fun b o e => (e2.bs b o e).1
  refine wpAny_newFunctionEnv S.nocell (fun ⟨n, _⟩ hy => S.par n (List.of_mem_zip hy).1) (fun h₁ hns hsb => ⟨lim.fresh _ hsb, ?_⟩) S.kind
  show codeAny _ _ (.func (defBody st) (envF (nfOf st x qual cda cc) f s2.heap.objs.size)) _ _
  have kp : ∀ b o, s2.heap.get? b = some o → h₁.get? b = some o := fun b o e => hsb.extBut b o (Nat.ne_of_lt (Heap.lt_size e)) (Heap.get?_push_of_some _ e)
  obtain ⟨t, ht, hq⟩ := hbody s2 H2 vs g (hr.deeper _)
  have I : Inv (ncx CX P w K mg base N (nfOf st x qual cda cc) f A outer s2 H2 E) [] (startF N vs [some (.ref D)]) H2 { s2 with heap := h₁, toks := s2.toks + (ps.zip us).length } := inv_startN S hr.hd e2 hl r (cells_super F e2) hns kp
  refine ks_codeAny_funcAt (ks_wpAt_mono (ht.run [] _ _ H2 _ I hq) (fun fl s' hs => ?_) fun e s' hs => ?_)
  · have fin : ∀ {σ' : L2.St} {H' : Hp} {v' : V} {u' : Value}, Inv (ncx CX P w K mg base N (nfOf st x qual cda cc) f A outer s2 H2 E) [] σ' H' s' → RelV v' u' → Q v' H' → CE outer P w H s Q u' s' :=
      fun {σ' H' v' u'} J rv' q => ⟨v', H', J.os.trans ho, J.bare, un.trans J.base, J.hok, rv', q⟩
    cases fl with
    | ret u' =>
      obtain ⟨v', σ', H', J, rv', q⟩ := hs
      exact fin J rv' q
    | next =>
      obtain ⟨σ', H', J, q⟩ := hs
      exact fin (v' := V.non) (u' := Value.none) J rfl q
    | brk =>
      obtain ⟨_, _, _, q⟩ := hs
      exact False.elim q
    | cont =>
      obtain ⟨_, _, _, q⟩ := hs
      exact False.elim q
  · exact wpAny_mono hs (fun _ s'' z => hx e s'' z) fun e' s'' z => hx e' s'' z
end
end Cs

set_option Elab.async false
set_option linter.all false
set_option maxRecDepth 100000
set_option maxHeartbeats 4000000
/-! A def that says super(), with a star: its promise by its body; what its text tells. -/
namespace Cs
open PySem PySem.W PySem.Spec L2 NdefX
section
variable {CX : CXT} {P : Program} {w : World} {K : PySem.W.Frag} {mg : Str → Option Value} {base : Heap} {k : Nat} {f cda cc D : Addr} {x qual : Str} {st : Stmt} {kV doc pm ct : Value} {an : Option Addr} {N ps : List Str} {pv : Str} {sp : Sp}
theorem FnR.up {j : Nat} (F : FnR P w K mg base CX k f sp) (h : k ≤ j) : FnR P w K mg base CX j f sp := fun A outer s H us vs Q E hr e0 r q => F A outer s H us vs Q E (hr.mono h) e0 r q
/-- what is left over goes to a new tuple -/
theorem bnd_star {fd : FuncData} {A : Around} {outer : List Env} {s : Shared} {H : Hp} {E : XK} {us : List Value} {ws rest : List V} (hCX : StX.CXUp CX) (e0 : Env0 P w K mg base A outer s H) (r : Vals (ws ++ rest) us) (hl : ws.length = ps.length) (hz : rest.length ≤ sizeLine)
    (hb : ∀ us rest : List Value, us.length = ps.length → bindArgs fd ⟨us ++ rest, []⟩ = (newTuple rest >>= fun t => pure (ps.zip us ++ [(pv, t)]))) :
    StX.Bnd CX P w K mg base fd ⟨us, []⟩ (ps ++ [pv]) A outer s H E (fun xs H2 => ∃ p, H p = Option.none ∧ xs = ws ++ [V.ref p] ∧ H2 = upd H p (.tup rest)) := by
  obtain ⟨u1, u2, eu, r1, r2⟩ := StX.vals_split r
  subst eu
  have free : H s.heap.objs.size = Option.none := e0.hok.fresh (Nat.le_refl _)
  have n1 : u1.length = ps.length := by rw [← r1.length]; exact hl
  have n2 : u2.length ≤ sizeLine := by rw [← r2.length]; exact hz
  intro A' Ex Q' h
  rw [hb u1 u2 n1]
  refine wpAny_bind (wpAny_newTuple (wpAny_pure ?_) n2)
  have laid : ObjOk P w (upd H s.heap.objs.size (.tup rest)) (s.heap.push ({ cls := .type "tuple", data := .seq u2.toArray } : Obj)) s.heap.objs.size (.tup rest) := ⟨hz, u2, r2, ⟨_, Heap.get?_push_size _ rfl, rfl, _, rfl⟩⟩
  have un := StX.un_laid (fs := frs outer) (s := s) (o := ({ cls := .type "tuple", data := .seq u2.toArray } : Obj)) (u := .tup rest) free
  have z := h _ _ (ws ++ [V.ref s.heap.objs.size]) (u1 ++ [Value.ref s.heap.objs.size]) (StX.env0_laid e0 laid) un rfl (fun e s' => hCX outer s H _ _ E e s' un (fun b o q => Heap.get?_push_of_some _ q) rfl) (r1.append (.cons rfl .nil))
    (by rw [List.length_append, List.length_append, hl] <;> rfl) ⟨_, free, rfl, rfl⟩
  rw [List.zip_append n1.symm] at z
  exact z
/-- def m(self, .., *v) with super() in it -/
theorem fn_supS (F : FunS K x qual st f cda cc D kV doc pm ct an) (S : NScope N (ps ++ [pv]) ["__class__"] (defScope st)) (hCX : StX.CXUp CX)
    (hb : ∀ us rest : List Value, us.length = ps.length → bindArgs (PySem.W.ksFn x qual (defArgs st) (defBody st) (defScope st) .none kV doc pm an (.ref cda) ct cc) ⟨us ++ rest, []⟩ = (newTuple rest >>= fun t => pure (ps.zip us ++ [(pv, t)])))
    (hbody : ∀ (A : Around) (outer : List Env) (s : Shared) (H : Hp) (vs : List V) (Q : VK) (E : XK), Room k (A.deeper (envF (nfOf st x qual cda cc) f s.heap.objs.size)) → sp vs H Q E →
      ∃ t, PSsA (ncx CX P w K mg base N (nfOf st x qual cda cc) f A outer s H E) (defBody st) (defBody st) t ∧ t { nx := fun _ H' => Q .non H', rt := Q } (startF N vs [some (.ref D)]) H) :
    FnR P w K mg base CX (k + 1) f (fun vs H Q E => ∃ ws rest, vs = ws ++ rest ∧ ws.length = ps.length ∧ rest.length ≤ sizeLine ∧ ∀ p, H p = Option.none → sp (ws ++ [V.ref p]) (upd H p (.tup rest)) Q E) := by
  intro A outer s H us vs Q E hr e0 r hsp
  obtain ⟨ws, rest, ev, hl, hz, hq⟩ := hsp
  subst ev
  refine run_sup F S hr e0 (bnd_star hCX e0 r hl hz hb) fun s2 H2 xs ⟨p, hp, ex, eH⟩ hr' => ?_
  subst ex eH
  exact hbody A outer s2 _ _ Q E hr' (hq p hp)
/-- def m(self, a, ..) with super() in it -/
theorem fn_sup (F : FunS K x qual st f cda cc D kV doc pm ct an) (S : NScope N ps ["__class__"] (defScope st)) (hps : ∀ vs H Q E, sp vs H Q E → vs.length = ps.length)
    (hb : ∀ us : List Value, us.length = ps.length → bindArgs (PySem.W.ksFn x qual (defArgs st) (defBody st) (defScope st) .none kV doc pm an (.ref cda) ct cc) ⟨us, []⟩ = pure (ps.zip us))
    (hbody : ∀ (A : Around) (outer : List Env) (s : Shared) (H : Hp) (vs : List V) (Q : VK) (E : XK), Room k (A.deeper (envF (nfOf st x qual cda cc) f s.heap.objs.size)) → sp vs H Q E →
      ∃ t, PSsA (ncx CX P w K mg base N (nfOf st x qual cda cc) f A outer s H E) (defBody st) (defBody st) t ∧ t { nx := fun _ H' => Q .non H', rt := Q } (startF N vs [some (.ref D)]) H) :
    FnR P w K mg base CX (k + 1) f sp := by
  intro A outer s H us vs Q E hr e0 r hsp
  have hl := hps _ _ _ _ hsp
  refine run_sup F S hr e0 (G := fun xs H2 => xs = vs ∧ H2 = H) (fun A' Ex Q' h => ?_) fun s2 H2 xs ⟨ex, eH⟩ hr' => ?_
  · rw [hb us (by rw [← r.length]; exact hl)]
    exact wpAny_pure (h s H vs us e0 (Un.kept fun _ _ q => q) rfl (fun _ _ q => q) r hl ⟨rfl, rfl⟩)
  · subst ex eH
    exact hbody A outer s2 _ _ Q E hr' hsp
/-- the program's own facts about super -/
structure SupG (P : Program) (K : PySem.W.Frag) (mg : Str → Option Value) : Prop where
  top : (P.main.scope.names.lookup ("super" : Str)).isSome = false
  mgs : mg "super" = none
  opq : PySem.W.nsIn K cStatics "thirdparty.any" = some none
/-- a def's own facts about super -/
structure SupD (P : Program) (K : PySem.W.Frag) (cda D : Addr) : Prop where
  code : ∃ ccl cdd vs ccs file tf, K.lookup cda = some ⟨ccl, cdd, .fields vs, ccs⟩ ∧ vs[2]? = some (.str file tf) ∧ ((P.main.file : Str) == file) = true
  isD : PySem.W.isClsIn K D = true
theorem supT_mk {A : Around} {outer : List Env} {s : Shared} {H : Hp} {E : XK} {ar : Str} (F : FunS K x qual st f cda cc D kV doc pm ct an) (G : SupG P K mg) (S : SupD P K cda D) (h1 : (defScope st).names.lookup ("super" : Str) = some .globalImplicit) (h2 : (defScope st).names.lookup ("__class__" : Str) = some .free)
    (h3 : (defScope st).names.lookup ar = some .local) (h4 : ∃ a, ((defArgs st).posonlyargs ++ (defArgs st).args).head? = some a ∧ a.arg = ar) :
    SupT (ncx CX P w K mg base N (nfOf st x qual cda cc) f A outer s H E) f cda cc D ar := by
  obtain ⟨oc, od, osl, lk⟩ := F.lk
  exact ⟨h1, h2, rfl, rfl, rfl, ⟨oc, od, _, osl, lk, h4⟩, S.code, F.cell, S.isD, G.top, G.mgs, G.opq, h3⟩
end
end Cs

set_option Elab.async false
set_option linter.all false
set_option maxRecDepth 100000
set_option maxHeartbeats 4000000
set_option pp.maxSteps 600
/-! Kinds, ends, and how a rule is made. -/
namespace Cs
open PySem L2
def RES : List Str := ["hold", "look", "do", "row", "one", "all", "new", "give", "take", "join", "other", "if", "and", "or", "then", "gone"]
/-- a word that is not barred -/
def Kind (z : Str) : Prop := Word z ∧ z ∉ RES
/-- one to three kinds, none twice -/
structure Kinds (ks : List Str) : Prop where
  lo : 1 ≤ ks.length
  hi : ks.length ≤ 3
  nd : ks.Nodup
  kd : ∀ z ∈ ks, Kind z
/-- the module's tuple of barred words -/
def ResAt (K : PySem.W.Frag) (r : Addr) : Prop := ∀ H : Hp, SqT K H r (RES.map V.str)
theorem flat_str (zs : List Str) : (zs.map V.str).all flatV = true := by
  rw [List.all_map, List.all_eq_true]
  intro z _
  rfl
theorem in_str (z : Str) (zs : List Str) : inV (.str z) (zs.map V.str) = decide (z ∈ zs) := by
  unfold inV
  rw [List.any_map, Bool.eq_iff_iff, List.any_eq_true, decide_eq_true_eq]
  constructor
  · rintro ⟨y, m, e⟩
    have e : (y == z) = true := e
    rw [← eq_of_beq e]
    exact m
  · intro m
    exact ⟨z, m, beq_self_eq_true z⟩
def kindB (z : Str) : Bool := wordB z && !decide (z ∈ RES)
theorem kindB_of {z : Str} (h : Kind z) : kindB z = true := by
  unfold kindB
  rw [wordB_of h.1, decide_eq_false h.2]
  rfl
def spIsKind (K : PySem.W.Frag) : Sp := fun vs H Q _ => (∃ z : Str, vs = [.str z] ∧ z.length ≤ 100000 ∧ ∀ H', Same H H' → Q (.bl (kindB z)) H') ∨ (∃ x ty, vs = [x] ∧ TyX K H x (.type ty) ∧ kitB ty "str" = some false ∧ Q (.bl false) H)
def spIsBound (K : PySem.W.Frag) : Sp := fun vs H Q _ => (∃ n : Int, vs = [.int n] ∧ Q (.bl (decide (0 ≤ n) && decide (n ≤ 9))) H) ∨ (∃ x, vs = [x] ∧ NotInt K H x ∧ Q (.bl false) H)
def spDistinctT (K : PySem.W.Frag) : Sp := fun vs H Q _ => ∃ (a : Addr) (zs : List Str), vs = [.ref a] ∧ SqT K H a (zs.map V.str) ∧ zs.length ≤ 1000 ∧
  ∀ (p : Addr) (H' : Hp) (ws : List Str), H p = none → Same H H' → H' p = some (.lst (ws.map V.str)) → Asc ws → (∀ z, z ∈ ws ↔ z ∈ zs) → ws.length ≤ zs.length → Q (.ref p) H'
theorem nd_len {xs ys : List Str} (h : xs.Nodup) (k : ∀ z ∈ xs, z ∈ ys) : xs.length ≤ ys.length := by
  induction xs generalizing ys with
  | nil => exact Nat.zero_le _
  | cons x xs ih =>
    obtain ⟨h1, h2⟩ := List.nodup_cons.mp h
    have hx := k x List.mem_cons_self
    have := ih (ys := ys.erase x) h2 fun z hz => (List.mem_erase_of_ne (fun (e : z = x) => h1 (e ▸ hz))).mpr (k z (List.mem_cons_of_mem _ hz))
    rw [List.length_erase_of_mem hx] at this
    have : 0 < ys.length := List.length_pos_of_mem hx
    rw [List.length_cons]
    omega
section
variable {P : Program} {w : World} {K : PySem.W.Frag} {mg : Str → Option Value} {base : Heap}
theorem Same.seqT {H H' : Hp} {a : Addr} {xs : List V} (s : Same H H') (h : SqT K H a xs) : SqT K H' a xs := by
  rcases h with h | h
  · left
    rcases h with h | ⟨o, h⟩
    · exact .inl (s _ _ h)
    · exact .inr ⟨o, s _ _ h⟩
  · exact .inr h
theorem ok_is_kind {f fIw rR : Addr} {fd fdIw : FuncData} (F : Fun K "is_kind" "is_kind" s_is_kind f fd) (g : Bi mg) (FIw : Def P w K mg base CX0 1 "is_word" ["thing"] (spIsWord K) fIw fdIw) (mRES : mg "RESERVED" = some (.ref rR)) (hR : ResAt K rR) : FnOk P w K mg base CX0 2 f fd ["thing"] (spIsKind K) := by
  obtain ⟨GIw, mIw, _, bIw⟩ := id FIw
  refine F.ok sc_is_kind (fun vs H Q E h => ?_) (fun cdv A outer s H vs Q E hr h => ?_)
  · rcases h with ⟨_, rfl, _⟩ | ⟨_, _, rfl, _⟩ <;> rfl
  · have hrIw : Room 1 _ := hr.mono (by decide)
    refine ⟨_, (pss_one (ps_ret (pe_and (pe_call GIw hrIw rfl mIw FIw.kp bIw .nil pass0 (pa_cons (pv 0) pa_nil)) (pe_one (pe_cmpR op_notIn_seq (pv 0) (pe_glob (v := .ref rR) rfl mRES rfl) (by rfl)))))), ?_⟩
    rcases h with ⟨z, rfl, hz, q⟩ | ⟨x, ty, rfl, ht, hc, q⟩
    · refine ⟨_, rfl, .inl ⟨z, rfl, hz, fun H1 s1 => ⟨_, rfl, ?_⟩⟩⟩
      have q1 := q H1 s1
      unfold kindB at q1
      cases e : wordB z with
      | false =>
        rw [e] at q1
        exact iteF q1
      | true =>
        rw [e] at q1
        refine iteT ⟨_, rfl, rR, _, rfl, .inr (hR H1), rfl, flat_str RES, ?_⟩
        rw [in_str]
        exact q1
    · exact ⟨_, rfl, .inr ⟨x, ty, rfl, ht, hc, _, rfl, iteF q⟩⟩
theorem ok_is_bound {f fIi : Addr} {fd fdIi : FuncData} (F : Fun K "is_bound" "is_bound" s_is_bound f fd) (g : Bi mg) (FIi : Def P w K mg base CX0 1 "is_integer" ["thing"] (spIsInteger K) fIi fdIi) : FnOk P w K mg base CX0 2 f fd ["thing"] (spIsBound K) := by
  obtain ⟨GIi, mIi, _, bIi⟩ := id FIi
  refine F.ok sc_is_bound (fun vs H Q E h => ?_) (fun cdv A outer s H vs Q E hr h => ?_)
  · rcases h with ⟨_, rfl, _⟩ | ⟨_, rfl, _⟩ <;> rfl
  · have hrIi : Room 1 _ := hr.mono (by decide)
    refine ⟨_, (pss_one (ps_ret (pe_and (pe_call GIi hrIi rfl mIi FIi.kp bIi .nil pass0 (pa_cons (pv 0) pa_nil)) (pe_one (pe_chain op_le op_le pe_int (pv 0) pe_int))))), ?_⟩
    rcases h with ⟨n, rfl, q⟩ | ⟨x, rfl, hx, q⟩
    · refine ⟨_, rfl, .inl ⟨n, rfl, _, rfl, iteT ?_⟩⟩
      refine ⟨_, rfl, _, _, rfl, rfl, _, rfl, ?_⟩
      by_cases c : (0 : Int) ≤ n
      · rw [decide_eq_true c] at q ⊢
        exact iteT ⟨_, _, rfl, rfl, q⟩
      · rw [decide_eq_false c] at q ⊢
        exact iteF q
    · exact ⟨_, rfl, .inr ⟨x, rfl, hx, _, rfl, iteF q⟩⟩
theorem ok_distinctT {f : Addr} {fd : FuncData} (F : Fun K "distinct" "distinct" s_distinct f fd) (g : Bi mg) : FnOk P w K mg base CX0 1 f fd ["words"] (spDistinctT K) := by
  refine F.ok sc_distinct (fun vs H Q E h => ?_) (fun cdv A outer s H vs Q E hr h => ?_)
  · obtain ⟨_, _, rfl, _⟩ := h
    rfl
  · obtain ⟨a, zs, rfl, ha, hl, q⟩ := h
    refine ⟨_, (pss_one (ps_ret (pe_callB (cr_sortT rfl) (by rfl) g.sorted (by decide +kernel) (pa_cons (pe_scT (own := [("word", 1)]) (g := gName 1)  (by rfl) sc_distinct.nd (pi_tup (pv 0)) (blkOk_by (own := [("word", 1)]) (N := ["words", "word"]) (sc := defScope s_distinct) (by decide +kernel)) (fun _ _ _ _ _ => (pg_name (i := 1) sc_distinct.nd rfl (Or.inl rfl))) (fun _ _ _ _ _ => pts_nil) (fun _ _ _ _ _ => (pe_callTy SkE.call_str_str (by rfl) g.str (by decide +kernel) (pa_cons (pv 1) pa_nil)))) pa_nil)))), ?_⟩
    refine ⟨_, rfl, a, rfl, ⟨_, ha⟩, fun D hD => ?_⟩
    refine scT_it walk_tup (fun i H' => Same H H' ∧ H' D = some (TSetO w D (once (zs.take i)))) ⟨Same.new hD, upd_same⟩ (fun i H' _ h => Cs.Same.seqT h.1 ha) ?_ ?_
    · rintro i x H' H2 hi ⟨s', hD'⟩ ⟨rfl, hx⟩
      rw [List.length_map] at hi
      have ex : x = V.str zs[i] := by
        rw [List.getElem?_map, List.getElem?_eq_getElem hi] at hx
        exact (Option.some.inj hx).symm
      subst ex
      refine ⟨rfl, yes_it ?_⟩
      refine ⟨_, rfl, _, rfl, zs[i], _, rfl, hD', ?_, ?_, ?_⟩
      · have h1 := once_len (zs.take i)
        rw [List.length_take] at h1
        exact Nat.lt_of_le_of_lt (show (once (zs.take i)).length + 1 ≤ 1001 by omega) (by decide)
      · exact fun b o e => by rw [upd_ne (ne_of_none e hD)]; exact s' b o e
      · rw [upd_same, List.take_succ, List.getElem?_eq_getElem hi]
        show some (TSetO w D (addT (once (zs.take i)) zs[i])) = some (TSetO w D (once (zs.take i ++ [zs[i]])))
        rw [once_snoc]
    · rintro H' ⟨s', hD'⟩
      rw [List.length_map, List.take_length] at hD'
      have h1 := once_len zs
      refine ⟨D, _, rfl, hD', by omega, fun ys p hp hs hn => ?_⟩
      refine q p _ ys (s'.free hn) (s'.trans (Same.new hn)) upd_same (asc_of_sorted hs (hp.nodup_iff.mpr (once_nodup zs))) (fun z => by rw [hp.mem_iff, once_mem]) (by rw [hp.length_eq]; exact h1)
/-! ### the class Rule -/
/-- a class whose objects have kinds, a least and a most -/
structure RC (K : PySem.W.Frag) (C : Addr) : Prop where
  cl : Cls K C
  nk : NoAttr K C "kinds"
  nl : NoAttr K C "least"
  nm : NoAttr K C "most"
def spRuleB (C : Addr) : Sp := fun vs H Q _ => ∃ (x kt dx : Addr) (fs : List (Str × V)) (ks : List Str), vs = [.ref x, .ref kt] ∧ H x = some (.ins C dx fs) ∧ fs.length < 900 ∧ H kt = some (.tup (ks.map V.str)) ∧ Kinds ks ∧
  ∀ H', H' x = some (.ins C dx (putF "kinds" (.ref kt) fs)) → (∀ b o, H b = some o → b ≠ x → H' b = some o) → Q .non H'
def spRule (C : Addr) : Sp := fun vs H Q _ => ∃ (x dx : Addr) (fs : List (Str × V)) (ks : List Str), vs = .ref x :: ks.map V.str ∧ H x = some (.ins C dx fs) ∧ fs.length < 900 ∧ Kinds ks ∧
  ∀ (kt : Addr) (H' : Hp), H kt = none → H' kt = some (.tup (ks.map V.str)) → H' x = some (.ins C dx (putF "kinds" (.ref kt) fs)) → (∀ b o, H b = some o → b ≠ x → H' b = some o) → Q .non H'
theorem rule_body {C f fIk fDt : Addr} {fdIk fdDt : FuncData} {cdv : Value} {A : Around} {outer : List Env} {s : Shared} {H : Hp} {vs : List V} {Q : VK} {E : XK} (g : Bi mg) (R : RC K C)
    (FIk : Def P w K mg base CX0 2 "is_kind" ["thing"] (spIsKind K) fIk fdIk) (FDt : Def P w K mg base CX0 1 "distinct" ["words"] (spDistinctT K) fDt fdDt)
    (hr : Room 2 (A.deeper (PyProof.Rows.envOfC "Rule.__init__" (defScope s_Rule_init) s.heap.objs.size f cdv))) (h : spRuleB C vs H Q E) :
    ∃ t, PSs (cxOf CX0 P w K mg base ["self", "kinds", "kind"] "Rule.__init__" (defScope s_Rule_init) f cdv A outer s H E).nox (defBody s_Rule_init) t ∧ t { nx := fun _ H' => Q .non H', rt := Q } (L2.start ["self", "kinds", "kind"] vs) H := by
  obtain ⟨GIk, mIk, _, bIk⟩ := id FIk
  obtain ⟨GDi, mDi, _, bDi⟩ := id FDt
  have FDi := FDt
  have hrIk : Room 2 _ := hr
  have hrDi : Room 1 _ := hr.mono (by decide)
  obtain ⟨x, kt, dx, fs, ks, rfl, hx, hfs, hkt, hK, k⟩ := h
  refine ⟨_, (pss_cons (ps_if (PW.pt (pw_or (pt_not (pt_chain op_le op_le pe_int (pe_callB call_len (by rfl) g.len PySem.boot_len (pa_cons (pv 1) pa_nil)) pe_int)) (pw_or1 (pt_not (pt_val (pe_callB (cr_all rfl) (by rfl) g.all (by decide +kernel) (pa_cons (pe_lc (own := [("kind", 2)]) (g := gName 2)  (by rfl) sc_Rule_init.nd (pi_tup (pv 1)) (blkOk_by (own := [("kind", 2)]) (N := ["self", "kinds", "kind"]) (sc := defScope s_Rule_init) (by decide +kernel)) (fun _ _ _ _ _ => (pg_name (i := 2) sc_Rule_init.nd rfl (Or.inl rfl))) (fun _ _ _ _ _ => pts_nil) (fun _ _ _ _ _ => (pe_call GIk hrIk rfl mIk FIk.kp bIk .nil pass0 (pa_cons (pv 2) pa_nil)))) pa_nil))))))) (pss_one ps_never) pss_nil)
      (pss_cons (ps_if (pt_cmpR op_lt (pe_callB call_len (by rfl) g.len PySem.boot_len (pa_cons (pe_call GDi hrDi rfl mDi FDi.kp bDi .nil pass0 (pa_cons (pv 1) pa_nil)) pa_nil)) (pe_callB call_len (by rfl) g.len PySem.boot_len (pa_cons (pv 1) pa_nil)) (nomark _)) (pss_one ps_never) pss_nil)
      (pss_one (ps_fld (pv 0) (pe_callTy call_tuple_of (by rfl) g.tuple (by decide +kernel) (pa_cons (pv 1) pa_nil)) rfl)))), ?_⟩
  have hl1 := hK.lo
  have hl2 := hK.hi
  refine ⟨_, rfl, _, _, rfl, .inr ⟨_, SqT.of hkt, rfl⟩, _, _, rfl, rfl, _, rfl, ?_⟩
  rw [List.length_map, decide_eq_true (show (1 : Int) ≤ (ks.length : Int) by omega)]
  refine iteT ⟨_, _, rfl, rfl, _, rfl, ?_⟩
  rw [decide_eq_true (show (ks.length : Int) ≤ 3 by omega)]
  refine iteF ?_
  refine ⟨_, rfl, kt, rfl, ⟨_, SqT.of hkt⟩, fun D hD => lc_valsT (ys := ks.map fun _ => V.bl true) (by rw [List.length_map, List.length_map]) hkt hD (by rw [List.length_map]; omega) (fun _ => rfl) (fun i a b ha hb H' s' Qe qk => ?_) fun H1 s1 hD1 => ?_⟩
  · rw [List.getElem?_map] at ha hb
    cases e : ks[i]? with
    | none => rw [e] at ha; cases ha
    | some z =>
      rw [e] at ha hb
      obtain rfl := Option.some.inj ha
      obtain rfl := Option.some.inj hb
      have hz := hK.kd z (List.mem_of_getElem? e)
      refine ⟨_, rfl, .inl ⟨z, rfl, Nat.le_trans hz.1.2.1 (by decide), fun H2 s2 => ?_⟩⟩
      rw [kindB_of hz]
      exact qk H2 s2
  refine ⟨D, ks.map fun _ => true, rfl, SqL.of (by rw [hD1, List.map_map]; rfl), ?_⟩
  rw [show (ks.map fun _ => true).all id = true by rw [List.all_map, List.all_eq_true]; intro _ _; rfl]
  refine ⟨_, rfl, iteF ?_⟩
  refine ⟨_, rfl, kt, ks, rfl, SqT.of (s1 _ _ hkt), by omega, fun p H2 ws hp s2 h2 ha hm hle => ?_⟩
  have hlen : ws.length = ks.length := Nat.le_antisymm hle (nd_len hK.nd fun z hz => (hm z).mpr hz)
  have s12 := s1.trans s2
  have hkt2 := s12 _ _ hkt
  refine ⟨_, _, rfl, .inl ⟨_, SqL.of h2, rfl⟩, _, rfl, _, _, rfl, .inr ⟨_, SqT.of hkt2, rfl⟩, _, _, rfl, rfl, _, rfl, ?_⟩
  rw [List.length_map, List.length_map, hlen, decide_eq_false (Int.lt_irrefl _)]
  refine iteF ?_
  have nxk : x ≠ kt := ne_of hx hkt (by intro z; cases z)
  refine ⟨_, rfl, kt, _, rfl, .inr ⟨SqT.of hkt2, _, rfl, x, C, dx, fs, rfl, s12 _ _ hx, R.cl, R.nk, by omega, ?_⟩⟩
  exact k _ upd_same fun b o e n => by rw [upd_ne n]; exact s12 _ _ e
theorem ok_rule {C f fIk fDt : Addr} {fdIk fdDt : FuncData} {oc od kV doc pm an cdv ct osl} (g : Bi mg) (R : RC K C) (FIk : Def P w K mg base CX0 2 "is_kind" ["thing"] (spIsKind K) fIk fdIk) (FDt : Def P w K mg base CX0 1 "distinct" ["words"] (spDistinctT K) fDt fdDt)
    (lk : K.lookup f = some ⟨oc, od, .func (PySem.W.fnOf "__init__" "Rule.__init__" (defArgs s_Rule_init) (defBody s_Rule_init) (defScope s_Rule_init) .none kV doc pm an cdv ct), osl⟩) (hcd : PySem.W.codeIn K cdv "Rule.__init__" = true) :
    FnR P w K mg base CX0 3 f (spRule C) := by
  have G := StX.fn_star (P := P) (w := w) (mg := mg) (base := base) (CX := CX0) (k := 2) (ps := ["self"]) (pv := "kinds") (sp := spRuleB C) lk hcd sc_Rule_init StX.cxUp_none
    (fun us rest hl => match us, rest, hl with | [a], [], _ => rfl | [a], r :: rs, _ => rfl)
    (fun A outer s H vs Q E hr h => by
      obtain ⟨t, a, b⟩ := rule_body (P := P) (w := w) (mg := mg) (base := base) (outer := outer) (s := s) g R FIk FDt hr h
      exact ⟨t, a.nox, b⟩)
  refine G.imp fun vs H Q E h => ?_
  obtain ⟨x, dx, fs, ks, rfl, hx, hfs, hK, k⟩ := h
  have hl2 := hK.hi
  refine ⟨[.ref x], ks.map V.str, rfl, rfl, by rw [List.length_map]; exact Nat.le_trans hl2 (by decide), fun p hp => ?_⟩
  have s1 : Same H (upd H p (.tup (ks.map V.str))) := Same.new hp
  refine ⟨x, p, dx, fs, ks, rfl, s1 _ _ hx, hfs, upd_same, hK, fun H' h1 h2 => k p H' hp ?_ h1 fun b o e n => h2 b o (s1 _ _ e) n⟩
  exact h2 _ _ upd_same (ne_of_none hx hp).symm
end
end Cs

set_option Elab.async false
set_option linter.all false
set_option maxRecDepth 100000
set_option maxHeartbeats 4000000
set_option pp.maxSteps 600
/-! AtMost, AtLeast, Between, Exactly: how they are made. -/
namespace Cs
open PySem L2 NdefX
theorem putF_len (f : Str) (v : V) : ∀ fs : List (Str × V), (putF f v fs).length ≤ fs.length + 1
  | [] => Nat.le_refl _
  | (g, x) :: r => by
    show (if g = f then (g, v) :: r else (g, x) :: putF f v r).length ≤ _
    split
    · exact Nat.le_succ _
    · have := putF_len f v r
      simp only [List.length_cons]
      omega
/-- what an __init__ leaves: the fields by F, the kinds' tuple new -/
def RulNew (C : Addr) (H : Hp) (Q : VK) (x dx : Addr) (ks : List Str) (F : Addr → List (Str × V)) : Prop :=
  ∀ (kt : Addr) (H' : Hp), H kt = none → H' kt = some (.tup (ks.map V.str)) → H' x = some (.ins C dx (F kt)) → (∀ b o, H b = some o → b ≠ x → H' b = some o) → Q .non H'
def Bnd9 (n : Int) : Prop := 0 ≤ n ∧ n ≤ 9
/-- __init__(self, n.., *kinds) behind the binding, and as it is called -/
def spIB (bd : Nat) (C : Addr) (ok : List Int → Prop) (F : List Int → List (Str × V) → Addr → List (Str × V)) : Sp := fun vs H Q _ => ∃ (x kt dx : Addr) (ns : List Int) (fs : List (Str × V)) (ks : List Str), vs = (.ref x :: ns.map V.int) ++ [.ref kt] ∧ ok ns ∧ H x = some (.ins C dx fs) ∧ fs.length < bd ∧ H kt = some (.tup (ks.map V.str)) ∧ Kinds ks ∧ RulNew C H Q x dx ks (F ns fs)
def spI (bd : Nat) (C : Addr) (ok : List Int → Prop) (F : List Int → List (Str × V) → Addr → List (Str × V)) : Sp := fun vs H Q _ => ∃ (x dx : Addr) (ns : List Int) (fs : List (Str × V)) (ks : List Str), vs = .ref x :: (ns.map V.int ++ ks.map V.str) ∧ ok ns ∧ H x = some (.ins C dx fs) ∧ fs.length < bd ∧ Kinds ks ∧ RulNew C H Q x dx ks (F ns fs)
def okAM (ns : List Int) : Prop := ∃ m, ns = [m] ∧ Bnd9 m
def fsAM (ns : List Int) (fs : List (Str × V)) (kt : Addr) : List (Str × V) := putF "most" (.int (ns.getD 0 0)) (putF "least" (.int 0) (putF "kinds" (.ref kt) fs))
def fsAL1 (ns : List Int) (fs : List (Str × V)) (kt : Addr) : List (Str × V) := putF "least" (.int (ns.getD 0 0)) (putF "kinds" (.ref kt) (putF "most" .non fs))
def okAL2 (ns : List Int) : Prop := ∃ l m, ns = [l, m] ∧ Bnd9 l ∧ Bnd9 m
def fsAL2 (ns : List Int) (fs : List (Str × V)) (kt : Addr) : List (Str × V) := putF "least" (.int (ns.getD 0 0)) (fsAM [ns.getD 1 0] (putF "most" .non fs) kt)
def okBt (ns : List Int) : Prop := ∃ l m, ns = [l, m] ∧ Bnd9 l ∧ Bnd9 m ∧ l ≤ m
def fsEx (ns : List Int) (fs : List (Str × V)) (kt : Addr) : List (Str × V) := fsAL2 [ns.getD 0 0, ns.getD 0 0] fs kt
theorem spI_of {P : Program} {w : World} {K : PySem.W.Frag} {mg : Str → Option Value} {base : Heap} {k : Nat} {f C : Addr} {ok : List Int → Prop} {F : List Int → List (Str × V) → Addr → List (Str × V)} {n bd : Nat} (hn : ∀ ns, ok ns → ns.length = n)
    (G : FnR P w K mg base CX0 k f (fun vs H Q E => ∃ ws rest, vs = ws ++ rest ∧ ws.length = n + 1 ∧ rest.length ≤ sizeLine ∧ ∀ p, H p = Option.none → spIB bd C ok F (ws ++ [V.ref p]) (upd H p (.tup rest)) Q E)) : FnR P w K mg base CX0 k f (spI bd C ok F) := by
  refine G.imp fun vs H Q E h => ?_
  obtain ⟨x, dx, ns, fs, ks, rfl, ho, hx, hfs, hK, k⟩ := h
  have h3 := hK.hi
  refine ⟨.ref x :: ns.map V.int, ks.map V.str, rfl, by rw [List.length_cons, List.length_map, hn ns ho], by rw [List.length_map]; exact Nat.le_trans h3 (by decide), fun p hp => ?_⟩
  have s1 : Same H (upd H p (.tup (ks.map V.str))) := Same.new hp
  refine ⟨x, p, dx, ns, fs, ks, rfl, ho, s1 _ _ hx, hfs, upd_same, hK, fun kt H' hk h1 h2 h4 => ?_⟩
  exact k kt H' (s1.free hk) h1 h2 fun b o e n => h4 b o (s1 _ _ e) n
section
variable {P : Program} {w : World} {K : PySem.W.Frag} {mg : Str → Option Value} {base : Heap} {kV doc pm ct : Value} {an : Option Addr} {f fIb fR C D cda cc : Addr} {fdIb : FuncData}
theorem ok_atmost (g : Bi mg) (R : RC K C) (FIb : Def P w K mg base CX0 2 "is_bound" ["thing"] (spIsBound K) fIb fdIb) (Fs : FunS K "__init__" "AtMost.__init__" s_AtMost_init f cda cc D kV doc pm ct an) (SG : SupG P K mg) (SD : SupD P K cda D)
    (S : Sup K C D "__init__" fR) (FR : FnR P w K mg base CX0 3 fR (spRule C)) : FnR P w K mg base CX0 4 f (spI 890 C okAM fsAM) := by
  obtain ⟨GIb, mIb, _, bIb⟩ := id FIb
  refine spI_of (n := 1) (fun ns ⟨m, e, _⟩ => by rw [e]; rfl) (fn_supS (ps := ["self", "most"]) (pv := "kinds") Fs sc_AtMost_init StX.cxUp_none (fun us rest hl => match us, rest, hl with | [a, b], [], _ => rfl | [a, b], r :: rs, _ => rfl) fun A outer s H vs Q E hr h => ?_)
  obtain ⟨x, kt, dx, ns, fs, ks, rfl, ⟨m, rfl, hm⟩, hx, hfs, hkt, hK, k⟩ := h
  have TS := supT_mk (CX := CX0) (w := w) (base := base) (N := ["self", "most", "kinds", "__class__"]) (A := A) (outer := outer) (s := s) (H := H) (E := E) (ar := "self") Fs SG SD rfl rfl rfl ⟨_, rfl, rfl⟩
  have hrIb : Room 2 _ := hr.mono (by decide)
  have hrS : Room 3 _ := hr
  refine ⟨_, (pssa_cons (PSA.of (ps_if (pt_not (pt_val (pe_call GIb hrIb rfl mIb FIb.kp bIb .nil pass0 (pa_cons (pv 1) pa_nil)))) (pss_one ps_never) pss_nil))
      (pssa_cons (psa_expr (pea_sup1 (i := 0) TS rfl hrS pass0 (pv 2)))
      (pssa_cons (PSA.of (ps_fld (pv 0) pe_int rfl))
      (pssa_one (PSA.of (ps_fld (pv 0) (pv 1) rfl)))))), ?_⟩
  refine ⟨_, rfl, .inl ⟨m, rfl, ?_⟩⟩
  rw [decide_eq_true hm.1, decide_eq_true hm.2]
  refine ⟨_, rfl, iteF ?_⟩
  refine ⟨x, spRule C, ⟨C, dx, fs, fR, rfl, hx, S, FR⟩, _, rfl, kt, _, rfl, .inl (SqT.of hkt), ?_⟩
  refine ⟨x, dx, fs, ks, rfl, hx, by omega, hK, fun kt2 H1 hk1 hk2 h1 kp1 => ?_⟩
  have nxk : x ≠ kt2 := ne_of_none hx hk1
  have l1 := putF_len "kinds" (.ref kt2) fs
  refine ⟨_, rfl, x, C, dx, _, rfl, h1, R.cl, R.nl, by omega, ?_⟩
  have l2 := putF_len "least" (.int 0) (putF "kinds" (.ref kt2) fs)
  refine ⟨_, rfl, _, rfl, x, C, dx, _, rfl, upd_same, R.cl, R.nm, by omega, ?_⟩
  refine k kt2 _ hk1 (by rw [upd_ne nxk.symm, upd_ne nxk.symm]; exact hk2) upd_same fun b o e n => ?_
  rw [upd_ne n, upd_ne n]
  exact kp1 b o e n
theorem ok_atleast1 (g : Bi mg) (R : RC K C) (FIb : Def P w K mg base CX0 2 "is_bound" ["thing"] (spIsBound K) fIb fdIb) (Fs : FunS K "__init__" "AtLeast.__init__" s_AtLeast_init f cda cc D kV doc pm ct an) (SG : SupG P K mg) (SD : SupD P K cda D)
    (S : Sup K C D "__init__" fR) (FR : FnR P w K mg base CX0 3 fR (spRule C)) : FnR P w K mg base CX0 4 f (spI 890 C okAM fsAL1) := by
  obtain ⟨GIb, mIb, _, bIb⟩ := id FIb
  refine spI_of (n := 1) (fun ns ⟨m, e, _⟩ => by rw [e]; rfl) (fn_supS (ps := ["self", "least"]) (pv := "rest") Fs sc_AtLeast_init StX.cxUp_none (fun us rest hl => match us, rest, hl with | [a, b], [], _ => rfl | [a, b], r :: rs, _ => rfl) fun A outer s H vs Q E hr h => ?_)
  obtain ⟨x, kt, dx, ns, fs, ks, rfl, ⟨m, rfl, hm⟩, hx, hfs, hkt, hK, k⟩ := h
  have TS := supT_mk (CX := CX0) (w := w) (base := base) (N := ["self", "least", "rest", "__class__"]) (A := A) (outer := outer) (s := s) (H := H) (E := E) (ar := "self") Fs SG SD rfl rfl rfl ⟨_, rfl, rfl⟩
  have hrIb : Room 2 _ := hr.mono (by decide)
  have hrS : Room 3 _ := hr
  refine ⟨_, (pssa_cons (PSA.of (ps_if (pt_not (pt_val (pe_call GIb hrIb rfl mIb FIb.kp bIb .nil pass0 (pa_cons (pv 1) pa_nil)))) (pss_one ps_never) pss_nil))
      (pssa_cons (PSA.of (ps_fld (pv 0) pe_non rfl))
      (pssa_cons (psa_expr (pea_sup1 (i := 0) TS rfl hrS pass0 (pv 2)))
      (pssa_one (PSA.of (ps_fld (pv 0) (pv 1) rfl)))))), ?_⟩
  refine ⟨_, rfl, .inl ⟨m, rfl, ?_⟩⟩
  rw [decide_eq_true hm.1, decide_eq_true hm.2]
  refine ⟨_, rfl, iteF ?_⟩
  have nxt : x ≠ kt := ne_of hx hkt (by intro z; cases z)
  refine ⟨_, rfl, x, C, dx, fs, rfl, hx, R.cl, R.nm, by omega, ?_⟩
  have l0 := putF_len "most" .non fs
  refine ⟨x, spRule C, ⟨C, dx, _, fR, rfl, upd_same, S, FR⟩, _, rfl, kt, _, rfl, .inl (SqT.of (by rw [upd_ne nxt.symm]; exact hkt)), ?_⟩
  refine ⟨x, dx, _, ks, rfl, upd_same, by omega, hK, fun kt2 H1 hk1 hk2 h1 kp1 => ?_⟩
  have nxk : x ≠ kt2 := ne_of_none upd_same hk1
  have hk0 : H kt2 = none := by rw [upd_ne nxk.symm] at hk1; exact hk1
  have l1 := putF_len "kinds" (.ref kt2) (putF "most" .non fs)
  refine ⟨_, rfl, _, rfl, x, C, dx, _, rfl, h1, R.cl, R.nl, by omega, ?_⟩
  refine k kt2 _ hk0 (by rw [upd_ne nxk.symm]; exact hk2) upd_same fun b o e n => ?_
  rw [upd_ne n]
  exact kp1 b o (by rw [upd_ne n]; exact e) n
theorem ok_atleast2 (g : Bi mg) (R : RC K C) (FIb : Def P w K mg base CX0 2 "is_bound" ["thing"] (spIsBound K) fIb fdIb) (Fs : FunS K "__init__" "AtLeast.__init__" s_AtLeast_init f cda cc D kV doc pm ct an) (SG : SupG P K mg) (SD : SupD P K cda D)
    (S : Sup K C D "__init__" fR) (FR : FnR P w K mg base CX0 4 fR (spI 890 C okAM fsAM)) : FnR P w K mg base CX0 5 f (spI 880 C okAL2 fsAL2) := by
  obtain ⟨GIb, mIb, _, bIb⟩ := id FIb
  have G := fn_supS (P := P) (w := w) (mg := mg) (base := base) (CX := CX0) (k := 4) (ps := ["self", "least"]) (pv := "rest") (sp := fun vs H Q _ => ∃ (x kt dx : Addr) (l m : Int) (fs : List (Str × V)) (ks : List Str), vs = [.ref x, .int l, .ref kt] ∧ Bnd9 l ∧ Bnd9 m ∧ H x = some (.ins C dx fs) ∧ fs.length < 880 ∧ H kt = some (.tup (.int m :: ks.map V.str)) ∧ Kinds ks ∧ RulNew C H Q x dx ks (fsAL2 [l, m] fs))
    Fs sc_AtLeast_init StX.cxUp_none (fun us rest hl => match us, rest, hl with | [a, b], [], _ => rfl | [a, b], r :: rs, _ => rfl) fun A outer s H vs Q E hr h => by
    obtain ⟨x, kt, dx, l, m, fs, ks, rfl, hl, hm, hx, hfs, hkt, hK, k⟩ := h
    have TS := supT_mk (CX := CX0) (w := w) (base := base) (N := ["self", "least", "rest", "__class__"]) (A := A) (outer := outer) (s := s) (H := H) (E := E) (ar := "self") Fs SG SD rfl rfl rfl ⟨_, rfl, rfl⟩
    have hrIb : Room 2 _ := hr.mono (by decide)
    have hrS : Room 4 _ := hr
    refine ⟨_, (pssa_cons (PSA.of (ps_if (pt_not (pt_val (pe_call GIb hrIb rfl mIb FIb.kp bIb .nil pass0 (pa_cons (pv 1) pa_nil)))) (pss_one ps_never) pss_nil))
      (pssa_cons (PSA.of (ps_fld (pv 0) pe_non rfl))
      (pssa_cons (psa_expr (pea_sup1 (i := 0) TS rfl hrS pass0 (pv 2)))
      (pssa_one (PSA.of (ps_fld (pv 0) (pv 1) rfl)))))), ?_⟩
    refine ⟨_, rfl, .inl ⟨l, rfl, ?_⟩⟩
    rw [decide_eq_true hl.1, decide_eq_true hl.2]
    refine ⟨_, rfl, iteF ?_⟩
    have nxt : x ≠ kt := ne_of hx hkt (by intro z; cases z)
    refine ⟨_, rfl, x, C, dx, fs, rfl, hx, R.cl, R.nm, by omega, ?_⟩
    have l0 := putF_len "most" .non fs
    refine ⟨x, spI 890 C okAM fsAM, ⟨C, dx, _, fR, rfl, upd_same, S, FR⟩, _, rfl, kt, _, rfl, .inl (SqT.of (by rw [upd_ne nxt.symm]; exact hkt)), ?_⟩
    · refine ⟨x, dx, [m], _, ks, rfl, ⟨m, rfl, hm⟩, upd_same, by omega, hK, fun kt2 H1 hk1 hk2 h1 kp1 => ?_⟩
      have nxk : x ≠ kt2 := ne_of_none upd_same hk1
      have hk0 : H kt2 = none := by rw [upd_ne nxk.symm] at hk1; exact hk1
      have l1 := putF_len "kinds" (.ref kt2) (putF "most" .non fs)
      have l2 := putF_len "least" (.int 0) (putF "kinds" (.ref kt2) (putF "most" .non fs))
      have l3 := putF_len "most" (.int m) (putF "least" (.int 0) (putF "kinds" (.ref kt2) (putF "most" .non fs)))
      refine ⟨_, rfl, _, rfl, x, C, dx, _, rfl, h1, R.cl, R.nl, Nat.lt_of_le_of_lt l3 (by omega), ?_⟩
      refine k kt2 _ hk0 (by rw [upd_ne nxk.symm]; exact hk2) upd_same fun b o e n => ?_
      rw [upd_ne n]
      exact kp1 b o (by rw [upd_ne n]; exact e) n
  refine G.imp fun vs H Q E h => ?_
  obtain ⟨x, dx, ns, fs, ks, rfl, ⟨l, m, rfl, hl, hm⟩, hx, hfs, hK, k⟩ := h
  have h3 := hK.hi
  refine ⟨[.ref x, .int l], .int m :: ks.map V.str, rfl, rfl, by rw [List.length_cons, List.length_map]; exact Nat.le_trans (show ks.length + 1 ≤ 4 by omega) (by decide), fun p hp => ?_⟩
  have s1 : Same H (upd H p (.tup (.int m :: ks.map V.str))) := Same.new hp
  exact ⟨x, p, dx, l, m, fs, ks, rfl, hl, hm, s1 _ _ hx, hfs, upd_same, hK, fun kt H' hk h1 h2 h4 => k kt H' (s1.free hk) h1 h2 fun b o e n => h4 b o (s1 _ _ e) n⟩
theorem ok_between (g : Bi mg) (R : RC K C) (FIb : Def P w K mg base CX0 2 "is_bound" ["thing"] (spIsBound K) fIb fdIb) (Fs : FunS K "__init__" "Between.__init__" s_Between_init f cda cc D kV doc pm ct an) (SG : SupG P K mg) (SD : SupD P K cda D)
    (S : Sup K C D "__init__" fR) (FR : FnR P w K mg base CX0 5 fR (spI 880 C okAL2 fsAL2)) : FnR P w K mg base CX0 6 f (spI 880 C okBt fsAL2) := by
  obtain ⟨GIb, mIb, _, bIb⟩ := id FIb
  refine spI_of (n := 2) (fun ns ⟨l, m, e, _⟩ => by rw [e]; rfl) (fn_supS (ps := ["self", "least", "most"]) (pv := "kinds") Fs sc_Between_init StX.cxUp_none (fun us rest hl => match us, rest, hl with | [a, b, c], [], _ => rfl | [a, b, c], r :: rs, _ => rfl) fun A outer s H vs Q E hr h => ?_)
  obtain ⟨x, kt, dx, ns, fs, ks, rfl, ⟨l, m, rfl, hl, hm, hlm⟩, hx, hfs, hkt, hK, k⟩ := h
  have TS := supT_mk (CX := CX0) (w := w) (base := base) (N := ["self", "least", "most", "kinds", "__class__"]) (A := A) (outer := outer) (s := s) (H := H) (E := E) (ar := "self") Fs SG SD rfl rfl rfl ⟨_, rfl, rfl⟩
  have hrIb : Room 2 _ := hr.mono (by decide)
  have hrS : Room 5 _ := hr
  refine ⟨_, (pssa_cons (PSA.of (ps_if (PW.pt (pw_or (pt_not (pt_val (pe_call GIb hrIb rfl mIb FIb.kp bIb .nil pass0 (pa_cons (pv 1) pa_nil)))) (pw_or (pt_not (pt_val (pe_call GIb hrIb rfl mIb FIb.kp bIb .nil pass0 (pa_cons (pv 2) pa_nil)))) (pw_or1 (pt_cmpR op_gt (pv 1) (pv 2) (nomark _)))))) (pss_one ps_never) pss_nil))
      (pssa_one (psa_expr (pea_sup2 (i := 0) TS rfl hrS pass0 (pa_cons (pv 1) (pa_cons (pv 2) (StX.pa_star (pv 3) pa_nil))))))), ?_⟩
  refine ⟨_, rfl, .inl ⟨l, rfl, ?_⟩⟩
  rw [decide_eq_true hl.1, decide_eq_true hl.2]
  refine ⟨_, rfl, iteF ⟨_, rfl, .inl ⟨m, rfl, ?_⟩⟩⟩
  rw [decide_eq_true hm.1, decide_eq_true hm.2]
  refine ⟨_, rfl, iteF ⟨_, rfl, _, rfl, _, _, rfl, rfl, _, rfl, ?_⟩⟩
  rw [decide_eq_false (show ¬ m < l by omega)]
  refine iteF ?_
  refine ⟨x, spI 880 C okAL2 fsAL2, ⟨C, dx, fs, fR, rfl, hx, S, FR⟩, _, rfl, _, rfl, _, rfl, kt, _, rfl, .inl (SqT.of hkt), ?_⟩
  refine ⟨x, dx, [l, m], fs, ks, ?_, ⟨l, m, rfl, hl, hm⟩, hx, hfs, hK, k⟩
  simp
theorem ok_exactly (g : Bi mg) (Fs : FunS K "__init__" "Exactly.__init__" s_Exactly_init f cda cc D kV doc pm ct an) (SG : SupG P K mg) (SD : SupD P K cda D)
    (S : Sup K C D "__init__" fR) (FR : FnR P w K mg base CX0 6 fR (spI 880 C okBt fsAL2)) : FnR P w K mg base CX0 7 f (spI 880 C okAM fsEx) := by
  refine spI_of (n := 1) (fun ns ⟨m, e, _⟩ => by rw [e]; rfl) (fn_supS (ps := ["self", "number"]) (pv := "kinds") Fs sc_Exactly_init StX.cxUp_none (fun us rest hl => match us, rest, hl with | [a, b], [], _ => rfl | [a, b], r :: rs, _ => rfl) fun A outer s H vs Q E hr h => ?_)
  obtain ⟨x, kt, dx, ns, fs, ks, rfl, ⟨m, rfl, hm⟩, hx, hfs, hkt, hK, k⟩ := h
  have TS := supT_mk (CX := CX0) (w := w) (base := base) (N := ["self", "number", "kinds", "__class__"]) (A := A) (outer := outer) (s := s) (H := H) (E := E) (ar := "self") Fs SG SD rfl rfl rfl ⟨_, rfl, rfl⟩
  have hrS : Room 6 _ := hr
  refine ⟨_, (pssa_one (psa_expr (pea_sup2 (i := 0) TS rfl hrS pass0 (pa_cons (pv 1) (pa_cons (pv 1) (StX.pa_star (pv 2) pa_nil)))))), ?_⟩
  refine ⟨x, spI 880 C okBt fsAL2, ⟨C, dx, fs, fR, rfl, hx, S, FR⟩, _, rfl, _, rfl, _, rfl, kt, _, rfl, .inl (SqT.of hkt), ?_⟩
  refine ⟨x, dx, [m, m], fs, ks, ?_, ⟨m, m, rfl, hm, hm, Int.le_refl _⟩, hx, hfs, hK, k⟩
  simp
end
end Cs

set_option Elab.async false
set_option linter.all false
set_option maxRecDepth 100000
set_option maxHeartbeats 8000000
set_option pp.maxSteps 600
/-! The law's kinds: drawn words, moved on by their last letter until they are free. -/
namespace Cs
open PySem L2
/-- a text by its codes -/
abbrev Tx (l : List Nat) : Str := ⟨l.toArray⟩
theorem let_range : LET.cps.toList = (List.range 26).map (97 + ·) := by decide +kernel
theorem mem_let {c : Nat} : c ∈ LET.cps.toList ↔ ∃ i, i < 26 ∧ c = 97 + i := by
  rw [let_range, List.mem_map]
  constructor
  · rintro ⟨i, hi, e⟩
    exact ⟨i, List.mem_range.mp hi, e.symm⟩
  · rintro ⟨i, hi, e⟩
    exact ⟨i, List.mem_range.mpr hi, e.symm⟩
theorem let_at {i : Nat} (h : i < 26) : LET.cps.toList[i]? = some (97 + i) := by
  rw [let_range, List.getElem?_map, List.getElem?_range h]
  rfl
theorem let_index : ∀ i, i < 26 → Builtin.Str.occurrences LET ⟨#[97 + i]⟩ 0 LET.length 1 = [i] := by decide +kernel
/-- the word with its last letter moved on -/
def rot (l : List Nat) (i m : Nat) : Str := Tx (l ++ [97 + (i + m) % 26])
theorem rot_word {l : List Nat} (i m : Nat) (h7 : l.length ≤ 7) (hl : ∀ c ∈ l, c ∈ LET.cps.toList) : Word (rot l i m) := by
  refine ⟨?_, ?_, fun c hc => ?_⟩
  · show 1 ≤ (l ++ [97 + (i + m) % 26]).toArray.size
    simp
  · show (l ++ [97 + (i + m) % 26]).toArray.size ≤ 8
    simp
    omega
  · have hc : c ∈ l ++ [97 + (i + m) % 26] := hc
    rcases List.mem_append.mp hc with q | q
    · exact hl c q
    · rw [List.mem_singleton.mp q]
      exact mem_let.mpr ⟨_, Nat.mod_lt _ (by decide), rfl⟩
theorem word_rot {z : Str} (h : Word z) : ∃ l i, i < 26 ∧ z = rot l i 0 ∧ l.length ≤ 7 ∧ ∀ c ∈ l, c ∈ LET.cps.toList := by
  obtain ⟨⟨ls⟩, ez⟩ : ∃ a, z = ⟨a⟩ := ⟨_, rfl⟩
  subst ez
  obtain ⟨h1, h2, h3⟩ := h
  have h1 : 1 ≤ ls.length := h1
  have h2 : ls.length ≤ 8 := h2
  have ne : ls ≠ [] := by
    rintro rfl
    simp at h1
  have e := List.dropLast_concat_getLast ne
  obtain ⟨i, hi, ei⟩ := mem_let.mp (h3 (ls.getLast ne) (List.getLast_mem ne))
  refine ⟨ls.dropLast, i, hi, ?_, by rw [List.length_dropLast]; omega, fun c hc => h3 c ((List.dropLast_sublist ls).subset hc)⟩
  unfold rot Tx
  rw [Nat.add_zero, Nat.mod_eq_of_lt hi, ← ei, e]
theorem rot_inj {l : List Nat} {i a b : Nat} (ha : a < 26) (hb : b < 26) (h : rot l i a = rot l i b) : a = b := by
  unfold rot Tx at h
  have h := congrArg (fun z : Str => z.cps.toList) h
  have h : l ++ [97 + (i + a) % 26] = l ++ [97 + (i + b) % 26] := h
  have h := List.append_cancel_left h
  have h : 97 + (i + a) % 26 = 97 + (i + b) % 26 := List.cons.inj h |>.1
  omega
theorem rot_free {l : List Nat} {i : Nat} {bs : List Str} (hb : bs.length ≤ 25) (h : ∀ j, j < 26 → rot l i j ∈ bs) : False := by
  have nd : ((List.range 26).map (rot l i)).Nodup := by
    rw [List.Nodup, List.pairwise_map]
    refine List.nodup_range.imp_of_mem fun {a b} ha hb' ne e => ne (rot_inj (List.mem_range.mp ha) (List.mem_range.mp hb') e)
  have := nd_len nd (ys := bs) fun z hz => by
    obtain ⟨j, hj, rfl⟩ := List.mem_map.mp hz
    exact h j (List.mem_range.mp hj)
  rw [List.length_map, List.length_range] at this
  omega
theorem rot_cut (l : List Nat) (c : Nat) : cutS (Tx (l ++ [c])) none (some (-1)) = Tx l := by
  unfold cutS
  have h1 : (Tx (l ++ [c])).length = l.length + 1 := by show (l ++ [c]).toArray.size = _; simp
  have h2 : HT.sIx (l.length + 1) 0 none = 0 := rfl
  have h3 : HT.sIx (l.length + 1) (l.length + 1) (some (-1)) = l.length := by
    unfold HT.sIx
    first
    | (simp; omega)
    | omega
    | simp
  rw [h1, h2, h3]
  show Tx (((l ++ [c]).drop 0).take (l.length - 0)) = Tx l
  simp
theorem tx_cat (a b : List Nat) : Tx a ++ Tx b = Tx (a ++ b) := str_ext (by rw [PySem.Str.cps_append]; simp)
def spKind : Sp := fun vs H Q _ => ∃ (p c tk : Addr) (ts : List Str), vs = [.ref p, .ref tk] ∧ Src H p c ∧ H tk = some (.lst (ts.map V.str)) ∧ ts.length ≤ 9 ∧ tk ≠ p ∧ ∀ (z : Str) (H' : Hp), Kind z → z ∉ ts → Src H' p c → Kp p H H' → Q (.str z) H'
def spKinds : Sp := fun vs H Q _ => ∃ (p c : Addr) (n : Nat), vs = [.ref p, .int n] ∧ Src H p c ∧ n ≤ 9 ∧ ∀ (q : Addr) (H' : Hp) (ks : List Str), H q = none → H' q = some (.lst (ks.map V.str)) → ks.length = n → ks.Nodup → (∀ z ∈ ks, Kind z) → Src H' p c → Kp p H H' → Q (.ref q) H'
def W13 : List Str := ["self", "at", "to", "exactly", "least", "most", "from", "rule", "door", "limit", "begin", "store", "loose"]
theorem w13 : ∀ j : Nat, j < 13 → ∃ z : Str, (W13.map V.str)[j]? = some (.str z) ∧ Word z := by
  intro j hj
  have key : ∀ z ∈ W13, Word z := by
    unfold W13
    intro z hz
    simp only [List.mem_cons, List.not_mem_nil, or_false] at hz
    rcases hz with rfl | rfl | rfl | rfl | rfl | rfl | rfl | rfl | rfl | rfl | rfl | rfl | rfl <;> exact ⟨by decide, by decide, by decide +kernel⟩
  have hl : j < W13.length := hj
  exact ⟨W13[j], by rw [List.getElem?_map, List.getElem?_eq_getElem hl]; rfl, key _ (List.getElem_mem hl)⟩
section
variable {P : Program} {w : World} {K : PySem.W.Frag} {mg : Str → Option Value} {base : Heap}
theorem ok_kind {f fD : Addr} {fd fdD : FuncData} (F : Fun K "_law_kind" "_law_kind" s_l_kind f fd) (g : Bi mg) (FD : Def P w K mg base CX0 2 "_law_draw" ["_law_source_here", "_law_size"] spDraw fD fdD) : FnOk P w K mg base CX0 3 f fd ["_law_source_here", "_law_taken"] spKind := by
  obtain ⟨GD, mD, _, bD⟩ := id FD
  refine F.ok sc_l_kind (fun vs H Q E h => ?_) (fun cdv A outer s H vs Q E hr h => ?_)
  · obtain ⟨_, _, _, _, rfl, _⟩ := h
    rfl
  · obtain ⟨p, c, tk, ts, rfl, S0, htk, hts, ntp, k⟩ := h
    have hrD : Room 2 _ := hr.mono (by decide)
    refine ⟨_, (pss_cons (ps_set (i := 2) sc_l_kind.nd rfl (Or.inl rfl) pe_str)
      (pss_cons (ps_set (i := 3) sc_l_kind.nd rfl (Or.inl rfl) (pe_lst (pa_cons pe_str (pa_cons pe_str (pa_cons pe_str (pa_cons pe_str (pa_cons pe_str (pa_cons pe_str (pa_cons pe_str (pa_cons pe_str (pa_cons pe_str (pa_cons pe_str (pa_cons pe_str (pa_cons pe_str (pa_cons pe_str (pa_cons pe_str pa_nil))))))))))))))))
      (pss_cons (ps_set (i := 3) sc_l_kind.nd rfl (Or.inl rfl) (pe_op op_cat (pv 3) (pe_lst (pa_cons pe_str (pa_cons pe_str pa_nil)))))
      (pss_cons (ps_set (i := 4) sc_l_kind.nd rfl (Or.inl rfl) (pe_lst (pa_cons pe_str (pa_cons pe_str (pa_cons pe_str (pa_cons pe_str (pa_cons pe_str (pa_cons pe_str (pa_cons pe_str (pa_cons pe_str (pa_cons pe_str (pa_cons pe_str (pa_cons pe_str (pa_cons pe_str (pa_cons pe_str pa_nil)))))))))))))))
      (pss_cons (ps_set (i := 5) sc_l_kind.nd rfl (Or.inl rfl) pe_str)
      (pss_cons (ps_for PassesOwn.never rfl (pi_range1 rfl g.range (pa_cons (pe_op op_add pe_int (pe_call GD hrD rfl mD FD.kp bD .nil pass0 (pa_cons (pv 0) (pa_cons pe_int pa_nil)))) pa_nil)) (pg_name (i := 6) sc_l_kind.nd rfl (Or.inl rfl)) (pss_one (ps_set (i := 5) sc_l_kind.nd rfl (Or.inl rfl) (pe_op op_add_str (pv 5) (pe_ix ix_str (pv 2) (pe_call GD hrD rfl mD FD.kp bD .nil pass0 (pa_cons (pv 0) (pa_cons pe_int pa_nil))) (fun _ _ => rfl))))))
      (C8.pss_cut (ps_if (pt_cmpR op_eq (pe_call GD hrD rfl mD FD.kp bD .nil pass0 (pa_cons (pv 0) (pa_cons pe_int pa_nil))) pe_int (nomark _)) (pss_one (ps_set (i := 5) sc_l_kind.nd rfl (Or.inl rfl) (pe_ix ix_list (pv 4) (pe_call GD hrD rfl mD FD.kp bD .nil pass0 (pa_cons (pv 0) (pa_cons pe_int pa_nil))) (fun _ _ => rfl)))) pss_nil)
      (pss_cons (ps_for PassesOwn.never rfl (pi_range1 rfl g.range (pa_cons pe_int pa_nil)) (pg_name (i := 6) sc_l_kind.nd rfl (Or.inl rfl)) (pss_one (ps_if (PW.pt (pw_or (pt_cmpR op_in_seq (pv 5) (pv 1) (by rfl)) (pw_or1 (pt_cmpR op_in_seq (pv 5) (pv 3) (by rfl))))) (pss_one (ps_set (i := 5) sc_l_kind.nd rfl (Or.inl rfl) (pe_op op_add_str (pe_slice sl_str (pv 5) po_none (po_some (pe_un un_neg pe_int))) (pe_ix ix_str (pv 2) (pe_op op_mod (pe_op op_add (pe_m1 PySem.F.slot_str_index PySem.F.type_str_index mt_sindex (pv 2) (pe_ix ix_str (pv 5) (pe_un un_neg pe_int) (fun _ _ => rfl))) pe_int) pe_int) (fun _ _ => rfl))))) pss_nil)))
      (pss_one (ps_ret (pv 5))))))))))), ?_⟩
    refine ⟨by show 14 ≤ sizeLine; decide, fun b1 hb1 => ?_⟩
    generalize hB1 : ([V.str "hold", .str "look", .str "do", .str "row", .str "one", .str "all", .str "new", .str "give", .str "take", .str "join", .str "other", .str "if", .str "and", .str "or"] : List V) = B1
    have s1 : Same H (upd H b1 (.lst B1)) := Same.new hb1
    have h1 : (upd H b1 (.lst B1)) b1 = some (.lst B1) := upd_same
    generalize upd H b1 (.lst B1) = H1 at s1 h1
    refine ⟨_, rfl, by show 2 ≤ sizeLine; decide, fun b2 hb2 => ?_⟩
    have s2 : Same H1 (upd H1 b2 (.lst [.str "then", .str "gone"])) := Same.new hb2
    have h2 : (upd H1 b2 (.lst [.str "then", .str "gone"])) b2 = some (.lst [.str "then", .str "gone"]) := upd_same
    generalize upd H1 b2 (.lst [.str "then", .str "gone"]) = H2 at s2 h2
    refine ⟨b1, b2, _, _, rfl, rfl, s2 _ _ h1, h2, by rw [← hB1]; show 14 + 2 ≤ sizeLine; decide, fun b3 hb3 => ?_⟩
    have eR : B1 ++ [.str "then", .str "gone"] = RES.map V.str := by rw [← hB1]; rfl
    rw [eR]
    have s3 : Same H2 (upd H2 b3 (.lst (RES.map V.str))) := Same.new hb3
    have h3 : (upd H2 b3 (.lst (RES.map V.str))) b3 = some (.lst (RES.map V.str)) := upd_same
    have n3p : b3 ≠ p := (S0.same (s1.trans s2)).new_p hb3
    generalize upd H2 b3 (.lst (RES.map V.str)) = H3 at s3 h3
    refine ⟨by show 13 ≤ sizeLine; decide, fun b4 hb4 => ?_⟩
    have s4 : Same H3 (upd H3 b4 (.lst (W13.map V.str))) := Same.new hb4
    have h4 : (upd H3 b4 (.lst (W13.map V.str))) b4 = some (.lst (W13.map V.str)) := upd_same
    have s14 := ((s1.trans s2).trans s3).trans s4
    have n4p : b4 ≠ p := (S0.same ((s1.trans s2).trans s3)).new_p hb4
    have eU : upd H3 b4 (.lst (W13.map V.str)) = upd H3 b4 (.lst [V.str "self", .str "at", .str "to", .str "exactly", .str "least", .str "most", .str "from", .str "rule", .str "door", .str "limit", .str "begin", .str "store", .str "loose"]) := rfl
    rw [eU] at s4 h4 s14
    generalize upd H3 b4 (.lst [V.str "self", .str "at", .str "to", .str "exactly", .str "least", .str "most", .str "from", .str "rule", .str "door", .str "limit", .str "begin", .str "store", .str "loose"]) = H4 at s4 h4 s14
    have S4 := S0.same s14
    have h34 := s4 _ _ h3
    have ht4 := s14 _ _ htk
    clear eU eR hB1 h1 h2 h3 s1 s2 s3 s4 hb1 hb2 hb3 hb4
    refine ⟨_, rfl, p, c, 8, rfl, S4, by decide, by decide, fun v1 H5 v10 v11 S5 k5 => ⟨_, _, rfl, rfl, _, rfl, by omega, by omega, ?_⟩⟩
    have kA := Kp.of (p := p) s14
    -- the letters
    refine for_range (lo := 0) (n := (1 + v1).toNat) (fun i σ' H' => ∃ (z : Str) (x6 : Option V), σ' = [some (.ref p), some (.ref tk), some (.str LET), some (.ref b3), some (.ref b4), some (.str z), x6] ∧ z.length = i ∧ (∀ c ∈ z.cps.toList, c ∈ LET.cps.toList) ∧ Src H' p c ∧ Kp p H4 H')
      ⟨Str.empty, _, rfl, rfl, (fun _ h => by cases h), S5, k5⟩ ?_ ?_
    · rintro i σ' H' hi ⟨z, x6, rfl, hz, hzl, S', k'⟩
      refine ⟨_, rfl, _, rfl, _, rfl, p, c, 26, rfl, S', by decide, by decide, fun v2 H6 v20 v21 S6 k6 => ?_⟩
      obtain ⟨j, ej⟩ : ∃ j : Nat, v2 = j := ⟨v2.toNat, by omega⟩
      subst ej
      have hj : j < 26 := by omega
      refine ⟨LET, (j : Int), 97 + j, rfl, rfl, by decide, atI_nat (let_at hj), ?_⟩
      refine ⟨z, _, rfl, rfl, ?_, ?_⟩
      · show z.length + 1 ≤ sizeLine
        exact Nat.le_trans (show z.length + 1 ≤ 100 by omega) (by decide)
      · refine ⟨_, _, rfl, ?_, fun d hd => ?_, S6, k'.trans k6⟩
        · rw [len_add]
          show z.length + 1 = i + 1
          omega
        · rw [PySem.Str.cps_append, Array.toList_append] at hd
          rcases List.mem_append.mp hd with q | q
          · exact hzl d q
          · have : d = 97 + j := by simpa using q
            rw [this]
            exact mem_let.mpr ⟨j, hj, rfl⟩
    rintro σ' H' ⟨z, x6, rfl, hz, hzl, S', k'⟩
    have hw0 : Word z := ⟨by omega, by omega, hzl⟩
    clear hz hzl
    -- a known word
    refine ⟨fun σ2 H2 => ∃ z : Str, σ2 = [some (.ref p), some (.ref tk), some (.str LET), some (.ref b3), some (.ref b4), some (.str z), x6] ∧ Word z ∧ Src H2 p c ∧ Kp p H4 H2, ?_, ?_⟩
    · refine ⟨_, rfl, p, c, 8, rfl, S', by decide, by decide, fun v2 H6 v20 v21 S6 k6 => ⟨rfl, _, rfl, ite2 (fun z1 => ?_) (fun z1 => ?_)⟩⟩
      · refine ⟨_, rfl, _, rfl, p, c, 13, rfl, S6, by decide, by decide, fun v3 H7 v30 v31 S7 k7 => ?_⟩
        have k47 := (k'.trans k6).trans k7
        obtain ⟨y, ey, hy⟩ := w13 v3.toNat (by omega)
        refine ⟨b4, _, v3, _, rfl, rfl, SqL.of (k47 _ _ h4 n4p), at_of (z := v3) (j := v3.toNat) (by omega) ey, ?_⟩
        exact ⟨y, rfl, hy, S7, k47⟩
      · exact ⟨z, rfl, hw0, S6, k'.trans k6⟩
    clear S' k' hw0
    rintro σ2 H6 ⟨z, rfl, hw, S6, k6⟩
    obtain ⟨l, i0, hi0, rfl, hl7, hll⟩ := word_rot hw
    have h36 := k6 _ _ h34 n3p
    have ht6 := k6 _ _ ht4 ntp
    have fl : (ts.map V.str).all flatV = true := flat_str ts
    have fr : (RES.map V.str).all flatV = true := flat_str RES
    refine ⟨26, rfl, by decide, by decide, ?_⟩
    refine for_range (lo := 0) (n := 26) (fun i σ' H' => H' = H6 ∧ ∃ (m : Nat) (x6 : Option V), σ' = [some (.ref p), some (.ref tk), some (.str LET), some (.ref b3), some (.ref b4), some (.str (rot l i0 m)), x6] ∧ m ≤ i ∧ (m < i → rot l i0 m ∉ ts ∧ rot l i0 m ∉ RES) ∧ ∀ j, j < m → rot l i0 j ∈ ts ++ RES)
      ⟨rfl, 0, _, rfl, Nat.le_refl _, (fun h => absurd h (Nat.lt_irrefl _)), fun j h => absurd h (Nat.not_lt_zero _)⟩ ?_ ?_
    · rintro i σ' H' hi ⟨rfl, m, x6, rfl, hm, hf, hb⟩
      have stop : rot l i0 m ∉ ts → rot l i0 m ∉ RES → ∃ (m' : Nat) (x6' : Option V), ([some (.ref p), some (.ref tk), some (.str LET), some (.ref b3), some (.ref b4), some (.str (rot l i0 m)), some (.int (0 + (i : Int)))] : L2.St) = [some (.ref p), some (.ref tk), some (.str LET), some (.ref b3), some (.ref b4), some (.str (rot l i0 m')), x6'] ∧ m' ≤ i + 1 ∧ (m' < i + 1 → rot l i0 m' ∉ ts ∧ rot l i0 m' ∉ RES) ∧ ∀ j, j < m' → rot l i0 j ∈ ts ++ RES :=
        fun a b => ⟨m, _, rfl, by omega, fun _ => ⟨a, b⟩, hb⟩
      have next : rot l i0 m ∈ ts ++ RES → m = i := fun q => by
        by_cases e : m = i
        · exact e
        · obtain ⟨a, b⟩ := hf (by omega)
          rcases List.mem_append.mp q with q | q
          · exact absurd q a
          · exact absurd q b
      have body : ∀ {D : Ends}, rot l i0 m ∈ ts ++ RES → True := fun _ => trivial
      refine ⟨_, rfl, _, rfl, tk, _, rfl, .inl (SqL.of ht6), rfl, fl, _, rfl, ?_⟩
      have hr1 : (rot l i0 m).length ≤ sizeLine := Nat.le_trans (rot_word i0 m hl7 hll).2.1 (by decide)
      have hmod : (i0 + m) % 26 < 26 := Nat.mod_lt _ (by decide)
      have hlast : atI (rot l i0 m).cps.toList (-1) = some (97 + (i0 + m) % 26) := atI_last l _
      have hsucc : Tx l ++ (⟨#[97 + ((i0 + m) % 26 + 1) % 26]⟩ : Str) = rot l i0 (m + 1) := by
        show Tx l ++ Tx [97 + ((i0 + m) % 26 + 1) % 26] = _
        rw [tx_cat]
        unfold rot
        rw [show ((i0 + m) % 26 + 1) % 26 = (i0 + (m + 1)) % 26 by omega]
      have hmod2 : ((i0 + m) % 26 + 1) % 26 < 26 := Nat.mod_lt _ (by decide)
      have ecut : cutS (rot l i0 m) none (some (-1)) = Tx l := rot_cut l _
      have eix : ((((i0 + m) % 26 : Nat) : Int) + 1) % 26 = ((((i0 + m) % 26 + 1) % 26 : Nat) : Int) := by omega
      have hl8 : (Tx l).length = l.length := by show l.toArray.size = _; simp
      rw [in_str]
      refine ite2 (fun z1 => ?_) (fun z1 => ?_)
      · have hin := of_decide_eq_true z1
        have hmem : rot l i0 m ∈ ts ++ RES := List.mem_append.mpr (.inl hin)
        refine ⟨_, rfl, _, rfl, _, rfl, rot l i0 m, rfl, hr1, ?_⟩

        refine ⟨_, rfl, _, rfl, ⟨_, rfl⟩, _, rfl, _, rfl, rot l i0 m, -1, _, rfl, rfl, hr1, hlast, LET, _, _, [], rfl, rfl, let_index _ hmod, _, _, rfl, rfl, _, _, rfl, rfl, (by show (0 : Int) < 26; decide), LET, _, 97 + ((i0 + m) % 26 + 1) % 26, rfl, rfl, by decide, (by rw [eix]; exact atI_nat (let_at hmod2)), ?_⟩
        refine ⟨_, _, rfl, rfl, ?_, ?_⟩
        · rw [ecut, hl8]
          exact Nat.le_trans (show l.length + 1 ≤ 100 by omega) (by decide)
        · rw [ecut, hsucc]
          exact ⟨rfl, m + 1, _, rfl, by omega, fun h => by have := next hmem; omega, fun j hj => by
            rcases Nat.lt_succ_iff_lt_or_eq.mp hj with q | q
            · exact hb j q
            · rw [q]; exact hmem⟩
      · have hno : rot l i0 m ∉ ts := fun q => z1 (decide_eq_true q)
        refine ⟨_, rfl, _, rfl, b3, _, rfl, .inl (SqL.of h36), rfl, fr, _, rfl, ?_⟩
        rw [in_str]
        refine ite2 (fun z2 => ?_) (fun z2 => ?_)
        · have hin := of_decide_eq_true z2
          have hmem : rot l i0 m ∈ ts ++ RES := List.mem_append.mpr (.inr hin)
          refine ⟨_, rfl, _, rfl, _, rfl, rot l i0 m, rfl, hr1, ?_⟩
          refine ⟨_, rfl, _, rfl, ⟨_, rfl⟩, _, rfl, _, rfl, rot l i0 m, -1, _, rfl, rfl, hr1, hlast, LET, _, _, [], rfl, rfl, let_index _ hmod, _, _, rfl, rfl, _, _, rfl, rfl, (by show (0 : Int) < 26; decide), LET, _, 97 + ((i0 + m) % 26 + 1) % 26, rfl, rfl, by decide, (by rw [eix]; exact atI_nat (let_at hmod2)), ?_⟩
          refine ⟨_, _, rfl, rfl, ?_, ?_⟩
          · rw [ecut, hl8]
            exact Nat.le_trans (show l.length + 1 ≤ 100 by omega) (by decide)
          · rw [ecut, hsucc]
            exact ⟨rfl, m + 1, _, rfl, by omega, fun h => by have := next hmem; omega, fun j hj => by
              rcases Nat.lt_succ_iff_lt_or_eq.mp hj with q | q
              · exact hb j q
              · rw [q]; exact hmem⟩
        · have hno2 : rot l i0 m ∉ RES := fun q => z2 (decide_eq_true q)
          exact ⟨rfl, stop hno hno2⟩
    · rintro σ' H' ⟨rfl, m, x6, rfl, hm, hf, hb⟩
      have hm26 : m < 26 := by
        by_cases e : m = 26
        · subst e
          exact (rot_free (bs := ts ++ RES) (by rw [List.length_append]; show ts.length + 16 ≤ 25; omega) hb).elim
        · omega
      obtain ⟨a, b⟩ := hf hm26
      refine ⟨_, rfl, ?_⟩
      exact k _ _ ⟨rot_word i0 m hl7 hll, b⟩ a S6 (kA.trans k6)
theorem ok_kinds {f fK : Addr} {fd fdK : FuncData} (F : Fun K "_law_kinds" "_law_kinds" s_l_kinds f fd) (g : Bi mg) (FK : Def P w K mg base CX0 3 "_law_kind" ["_law_source_here", "_law_taken"] spKind fK fdK) : FnOk P w K mg base CX0 4 f fd ["_law_source_here", "_law_many"] spKinds := by
  obtain ⟨GK, mK, _, bK⟩ := id FK
  refine F.ok sc_l_kinds (fun vs H Q E h => ?_) (fun cdv A outer s H vs Q E hr h => ?_)
  · obtain ⟨_, _, _, rfl, _⟩ := h
    rfl
  · obtain ⟨p, c, n, rfl, S0, hn, k⟩ := h
    have hrK : Room 3 _ := hr.mono (by decide)
    refine ⟨_, (pss_cons (ps_set (i := 2) sc_l_kinds.nd rfl (Or.inl rfl) (pe_lst pa_nil))
      (pss_cons (ps_for PassesOwn.never rfl (pi_range1 rfl g.range (pa_cons (pv 1) pa_nil)) (pg_name (i := 3) sc_l_kinds.nd rfl (Or.inl rfl)) (pss_one (ps_expr (pe_bm PySem.F.plainAttrs_list PySem.F.slot_list_append PySem.F.type_list_append mt_append (pv 2) (pa_cons (pe_call GK hrK rfl mK FK.kp bK .nil pass0 (pa_cons (pv 0) (pa_cons (pv 2) pa_nil))) pa_nil)))))
      (pss_one (ps_ret (pv 2))))), ?_⟩
    refine ⟨Nat.zero_le _, fun q hq => ?_⟩
    have s1 : Same H (upd H q (.lst [])) := Same.new hq
    have h1 : (upd H q (.lst [])) q = some (.lst []) := upd_same
    have nqp : q ≠ p := S0.new_p hq
    have nqc : q ≠ c := S0.new_c hq
    generalize upd H q (.lst []) = H1 at s1 h1
    refine ⟨_, rfl, _, rfl, by omega, by omega, ?_⟩
    refine for_range (lo := 0) (n := ((n : Int)).toNat) (fun i σ' H' => ∃ (ks : List Str) (x3 : Option V), σ' = [some (.ref p), some (.int n), some (.ref q), x3] ∧ H' q = some (.lst (ks.map V.str)) ∧ ks.length = i ∧ ks.Nodup ∧ (∀ z ∈ ks, Kind z) ∧ Src H' p c ∧ Kp p H H')
      ⟨[], _, rfl, h1, rfl, List.nodup_nil, (fun _ h => nomatch h), S0.same s1, Kp.of s1⟩ ?_ ?_
    · rintro i σ' H' hi ⟨ks, x3, rfl, hq', hl, hnd, hkd, S', k'⟩
      refine ⟨_, rfl, .inl ⟨rfl, _, SqL.of hq'⟩, _, rfl, _, rfl, p, c, q, ks, rfl, S', hq', by omega, nqp, fun z H2 hz hzn S2 k2 => ?_⟩
      have hq2 := k2 _ _ hq' nqp
      refine ⟨q, _, _, rfl, rfl, hq2, ?_, ?_⟩
      · rw [List.length_map]
        exact Nat.lt_of_le_of_lt (show ks.length ≤ 100 by omega) (by decide)
      have kq : ∀ b o, H2 b = some o → b ≠ q → (upd H2 q (.lst (ks.map V.str ++ [.str z]))) b = some o := fun b o e n => by rw [upd_ne n]; exact e
      refine ⟨ks ++ [z], _, rfl, ?_, ?_, ?_, fun y hy => ?_, S2.keep (fun b o hb e => kq b o e (by rcases hb with rfl | rfl; exact nqp.symm; exact nqc.symm)), fun b o e n => kq _ _ (k2 _ _ (k' b o e n) n) (ne_of_none e hq)⟩
      · rw [upd_same, List.map_append]
        rfl
      · rw [List.length_append, hl]
        rfl
      · exact List.nodup_append.mpr ⟨hnd, List.pairwise_singleton _ _, fun a ha b hb e => by rw [List.mem_singleton.mp hb] at e; exact hzn (e ▸ ha)⟩
      · rcases List.mem_append.mp hy with e | e
        · exact hkd y e
        · rw [List.mem_singleton.mp e]
          exact hz
    · rintro σ' H' ⟨ks, x3, rfl, hq', hl, hnd, hkd, S', k'⟩
      exact ⟨_, rfl, k q H' ks hq hq' (by omega) hnd hkd S' k'⟩
end
end Cs

set_option Elab.async false
set_option linter.all false
set_option maxRecDepth 100000
set_option maxHeartbeats 4000000
set_option pp.maxSteps 600
/-! The five classes of rules, their objects, and how they are made. -/
namespace Cs
open PySem L2
inductive RCl where
  | al | am | bt | ex
/-- the classes' places -/
structure RAd where
  R : Addr
  al : Addr
  am : Addr
  bt : Addr
  ex : Addr
def RAd.at (a : RAd) : RCl → Addr
  | .al => a.al
  | .am => a.am
  | .bt => a.bt
  | .ex => a.ex
/-- which of the four a rule is, too -/
def isA : RCl → RCl → Bool
  | .al, .al => true
  | .al, _ => false
  | .am, .am => true
  | .am, _ => false
  | .bt, .ex => false
  | .bt, _ => true
  | .ex, _ => true
/-- what isinstance asks of an object of the class -/
structure RI (K : PySem.W.Frag) (C : Addr) : Prop where
  cl : Cls K C
  ha : PySem.W.findIn K (.ref C) "__class__" = some (some (.builtin "object.__class__"))
  hn : PySem.W.specialIn K (.builtin "object.__class__") "__get__" = some (some (.builtin "getset_descriptor.__get__"))
  htk : PySem.W.takesIn K (.builtin "object.__class__") = some true
  hm : PySem.W.mroIn K C (.type "object") = some true
theorem RI.ty {K : PySem.W.Frag} {C : Addr} {H : Hp} {p dx : Addr} {fs : List (Str × V)} (c : RI K C) (h : H p = some (.ins C dx fs)) : TyX K H (.ref p) (.ref C) := .base (.ins h c.cl c.ha c.hn c.htk c.hm)
theorem kitR_self {K : PySem.W.Frag} {C : Addr} : PySem.W.kitOne K (.ref C) (.ref C) = some true := by
  unfold PySem.W.kitOne
  rw [if_pos (beq_self_eq_true _)]
theorem kitR_by {K : PySem.W.Frag} {C : Addr} {t : Value} {b : Bool} (h1 : PySem.W.isClsIn K C = true) (h2 : PySem.W.typeIn K (.ref C) = some (.type "type")) (h : PySem.W.subIn K t (.ref C) = some b) (hn : (t == Value.ref C) = false) : PySem.W.kitOne K t (.ref C) = some b := by
  have h1' : (PySem.W.clsIn K C).isSome = true := h1
  unfold PySem.W.kitOne PySem.W.kitCls
  simp [hn, h1', h2, h]
/-- .. where the answer is yes -/
theorem kitR_yes {K : PySem.W.Frag} {C : Addr} {t : Value} (h1 : PySem.W.isClsIn K C = true) (h2 : PySem.W.typeIn K (.ref C) = some (.type "type")) (h : PySem.W.subIn K t (.ref C) = some true) : PySem.W.kitOne K t (.ref C) = some true := by
  cases e : (t == Value.ref C) with
  | false => exact kitR_by h1 h2 h e
  | true =>
    unfold PySem.W.kitOne
    rw [if_pos e]
theorem kitR_no {K : PySem.W.Frag} {C D : Addr} (h1 : PySem.W.isClsIn K C = true) (h2 : PySem.W.typeIn K (.ref C) = some (.type "type")) (h : PySem.W.subIn K (.ref D) (.ref C) = some false) (hn : D ≠ C) : PySem.W.kitOne K (.ref D) (.ref C) = some false :=
  kitR_by h1 h2 h (beq_eq_false_iff_ne.mpr fun e => hn (by cases e; rfl))
structure RWo (K : PySem.W.Frag) (mg : Str → Option Value) (a : RAd) : Prop where
  mR : mg "Rule" = some (.ref a.R)
  mal : mg "AtLeast" = some (.ref a.al)
  mam : mg "AtMost" = some (.ref a.am)
  mbt : mg "Between" = some (.ref a.bt)
  mex : mg "Exactly" = some (.ref a.ex)
  rc : ∀ c, RC K (a.at c)
  ri : ∀ c, RI K (a.at c)
  kitR : ∀ c, PySem.W.kitOne K (.ref (a.at c)) (.ref a.R) = some true
  kit : ∀ c d, PySem.W.kitOne K (.ref (a.at c)) (.ref (a.at d)) = some (isA c d)
/-- how the four are made -/
structure RMk (P : Program) (w : World) (K : PySem.W.Frag) (mg : Str → Option Value) (base : Heap) (a : RAd) : Prop where
  wo : RWo K mg a
  al : ∃ f, Mk K a.al f ∧ FnR P w K mg base CX0 7 f (spI 880 a.al okAM fsAL1)
  am : ∃ f, Mk K a.am f ∧ FnR P w K mg base CX0 7 f (spI 880 a.am okAM fsAM)
  bt : ∃ f, Mk K a.bt f ∧ FnR P w K mg base CX0 7 f (spI 880 a.bt okBt fsAL2)
  ex : ∃ f, Mk K a.ex f ∧ FnR P w K mg base CX0 7 f (spI 880 a.ex okAM fsEx)
theorem FnR.less {P : Program} {w : World} {K : PySem.W.Frag} {mg : Str → Option Value} {base : Heap} {k bd bd' : Nat} {f C : Addr} {ok : List Int → Prop} {F : List Int → List (Str × V) → Addr → List (Str × V)} (G : FnR P w K mg base CX0 k f (spI bd C ok F)) (h : bd' ≤ bd) : FnR P w K mg base CX0 k f (spI bd' C ok F) := by
  refine G.imp fun vs H Q E q => ?_
  obtain ⟨x, dx, ns, fs, ks, rfl, ho, hx, hfs, hK, k⟩ := q
  exact ⟨x, dx, ns, fs, ks, rfl, ho, hx, Nat.lt_of_lt_of_le hfs h, hK, k⟩
/-- an integer or None -/
def optV : Option Int → V
  | none => .non
  | some n => .int n
/-- no field has a method's name -/
def NoM (fs : List (Str × V)) : Prop := ∀ g ∈ (["total_of", "holds", "lacks", "sum_text"] : List Str), fs.lookup g = none
theorem nom {fs : List (Str × V)} (h1 : fs.lookup ("total_of" : Str) = none) (h2 : fs.lookup ("holds" : Str) = none) (h3 : fs.lookup ("lacks" : Str) = none) (h4 : fs.lookup ("sum_text" : Str) = none) : NoM fs := by
  intro g hg
  simp only [List.mem_cons, List.not_mem_nil, or_false] at hg
  rcases hg with rfl | rfl | rfl | rfl <;> assumption
/-- a rule -/
def RulAt (a : RAd) (H : Hp) (p : Addr) (c : RCl) (l : Int) (m : Option Int) (ks : List Str) : Prop :=
  ∃ dx kt fs, H p = some (.ins (a.at c) dx fs) ∧ H kt = some (.tup (ks.map V.str)) ∧ fs.lookup ("kinds" : Str) = some (.ref kt) ∧ fs.lookup ("least" : Str) = some (.int l) ∧ fs.lookup ("most" : Str) = some (optV m) ∧ NoM fs
theorem RulAt.same {a : RAd} {H H' : Hp} {p : Addr} {c : RCl} {l : Int} {m : Option Int} {ks : List Str} (s : Same H H') (h : RulAt a H p c l m ks) : RulAt a H' p c l m ks := by
  obtain ⟨dx, kt, fs, h1, h2, h3⟩ := h
  exact ⟨dx, kt, fs, s _ _ h1, s _ _ h2, h3⟩
theorem RulAt.kp {a : RAd} {H H' : Hp} {p q d : Addr} {c : RCl} {l : Int} {m : Option Int} {ks : List Str} (S : Src H q d) (k : Kp q H H') (h : RulAt a H p c l m ks) : RulAt a H' p c l m ks := by
  obtain ⟨dx, kt, fs, h1, h2, h3⟩ := h
  obtain ⟨o, ho⟩ := S.at_p
  exact ⟨dx, kt, fs, k _ _ h1 (ne_of h1 ho (by intro z; cases z)), k _ _ h2 (ne_of h2 ho (by intro z; cases z)), h3⟩
/-- a new object, made from its integers and kinds -/
def NewR (C : Addr) (F : Addr → List (Str × V)) (ks : List Str) (H : Hp) (Q : Addr → Hp → Prop) : Prop :=
  ∀ (x dx kt : Addr) (H' : Hp), H x = none → H kt = none → Same H H' → H' x = some (.ins C dx (F kt)) → H' kt = some (.tup (ks.map V.str)) → Q x H'
theorem mk_rule {bd : Nat} {C : Addr} {ok : List Int → Prop} {F : List Int → List (Str × V) → Addr → List (Str × V)} {ns : List Int} {ks : List Str} {H : Hp} {Q : Addr → Hp → Prop} {E : XK} (hb : 0 < bd) (ho : ok ns) (hK : Kinds ks) (k : NewR C (F ns []) ks H Q) :
    ∀ x dx, H x = none → H dx = none → dx ≠ x → spI bd C ok F (V.ref x :: (ns.map V.int ++ ks.map V.str)) (upd (upd H dx (.own x)) x (.ins C dx [])) (fun v H2 => v = .non ∧ Q x H2) E := by
  intro x dx hx hdx ne
  refine ⟨x, dx, ns, [], ks, rfl, ho, upd_same, hb, hK, fun kt H' h1 h2 h3 h4 => ⟨rfl, ?_⟩⟩
  have nkx : kt ≠ x := fun e => by rw [e, upd_same] at h1; cases h1
  have hkt : H kt = none := by
    rw [upd_ne nkx] at h1
    have nkd : kt ≠ dx := fun e => by rw [e, upd_same] at h1; cases h1
    rw [upd_ne nkd] at h1
    exact h1
  refine k x dx kt H' hx hkt (fun b o e => h4 b o ?_ (ne_of_none e hx)) h3 h2
  rw [upd_ne (ne_of_none e hx), upd_ne (ne_of_none e hdx)]
  exact e
section
variable {a : RAd} {l m n : Int} {ks : List Str} {H : Hp} {Q : Addr → Hp → Prop} {E : XK}
theorem mk_al (hl : Bnd9 l) (hK : Kinds ks) (k : ∀ x H', H x = none → Same H H' → RulAt a H' x .al l none ks → Q x H') :
    ∀ x dx, H x = none → H dx = none → dx ≠ x → spI 880 a.al okAM fsAL1 (V.ref x :: ([l].map V.int ++ ks.map V.str)) (upd (upd H dx (.own x)) x (.ins a.al dx [])) (fun v H2 => v = .non ∧ Q x H2) E :=
  mk_rule (by decide) ⟨l, rfl, hl⟩ hK fun x dx kt H' hx _ s h1 h2 => k x H' hx s ⟨dx, kt, _, h1, h2, rfl, rfl, rfl, nom rfl rfl rfl rfl⟩
theorem mk_am (hm : Bnd9 m) (hK : Kinds ks) (k : ∀ x H', H x = none → Same H H' → RulAt a H' x .am 0 (some m) ks → Q x H') :
    ∀ x dx, H x = none → H dx = none → dx ≠ x → spI 880 a.am okAM fsAM (V.ref x :: ([m].map V.int ++ ks.map V.str)) (upd (upd H dx (.own x)) x (.ins a.am dx [])) (fun v H2 => v = .non ∧ Q x H2) E :=
  mk_rule (by decide) ⟨m, rfl, hm⟩ hK fun x dx kt H' hx _ s h1 h2 => k x H' hx s ⟨dx, kt, _, h1, h2, rfl, rfl, rfl, nom rfl rfl rfl rfl⟩
theorem mk_bt (hl : Bnd9 l) (hm : Bnd9 m) (hlm : l ≤ m) (hK : Kinds ks) (k : ∀ x H', H x = none → Same H H' → RulAt a H' x .bt l (some m) ks → Q x H') :
    ∀ x dx, H x = none → H dx = none → dx ≠ x → spI 880 a.bt okBt fsAL2 (V.ref x :: ([l, m].map V.int ++ ks.map V.str)) (upd (upd H dx (.own x)) x (.ins a.bt dx [])) (fun v H2 => v = .non ∧ Q x H2) E :=
  mk_rule (by decide) ⟨l, m, rfl, hl, hm, hlm⟩ hK fun x dx kt H' hx _ s h1 h2 => k x H' hx s ⟨dx, kt, _, h1, h2, rfl, rfl, rfl, nom rfl rfl rfl rfl⟩
theorem mk_ex (hn : Bnd9 n) (hK : Kinds ks) (k : ∀ x H', H x = none → Same H H' → RulAt a H' x .ex n (some n) ks → Q x H') :
    ∀ x dx, H x = none → H dx = none → dx ≠ x → spI 880 a.ex okAM fsEx (V.ref x :: ([n].map V.int ++ ks.map V.str)) (upd (upd H dx (.own x)) x (.ins a.ex dx [])) (fun v H2 => v = .non ∧ Q x H2) E :=
  mk_rule (by decide) ⟨n, rfl, hn⟩ hK fun x dx kt H' hx _ s h1 h2 => k x H' hx s ⟨dx, kt, _, h1, h2, rfl, rfl, rfl, nom rfl rfl rfl rfl⟩
end
theorem kinds_cases {ks : List Str} (h : Kinds ks) : (∃ x, ks = [x]) ∨ (∃ x y, ks = [x, y]) ∨ (∃ x y z, ks = [x, y, z]) := by
  have h1 := h.lo
  have h2 := h.hi
  match ks, h1, h2 with
  | [x], _, _ => exact .inl ⟨x, rfl⟩
  | [x, y], _, _ => exact .inr (.inl ⟨x, y, rfl⟩)
  | [x, y, z], _, _ => exact .inr (.inr ⟨x, y, z, rfl⟩)
/-! ### a tuple of words as data -/
def pts (zs : List Str) : PyData := .tuple (zs.map .str)
theorem wordR_ok {z : Str} (h : Word z) : PyData.strOk z = true := by
  unfold PyData.strOk
  rw [← Array.all_toList, List.all_eq_true]
  intro c hc
  have h1 := h.2.2 c hc
  have h2 : ∀ c ∈ LET.cps.toList, c < 0x110000 := by decide +kernel
  exact decide_eq_true (h2 c h1)
theorem strs_can : ∀ {zs : List Str}, (∀ z ∈ zs, Word z) → PyData.canLayAll0 (zs.map .str) = true
  | [], _ => rfl
  | z :: zs, h => by
    rw [List.map_cons, PyData.canLayAll0, strs_can fun y m => h y (List.mem_cons_of_mem _ m), PyData.canLay0, wordR_ok (h z List.mem_cons_self)]
    rfl
theorem strs_depth : ∀ zs : List Str, PyData.depthAll (zs.map .str) = 0
  | [] => rfl
  | z :: zs => by
    rw [List.map_cons, PyData.depthAll, strs_depth zs, PyData.depth]
    rfl
theorem pts_shaped {zs : List Str} (h : ∀ z ∈ zs, Word z) : SeqAt.shaped (pts zs) = true := by
  unfold SeqAt.shaped pts
  rw [Bool.and_eq_true]
  refine ⟨by rw [PyData.canLay0]; exact strs_can h, decide_eq_true ?_⟩
  rw [PyData.depth, strs_depth]
  decide
theorem pts_refl {zs : List Str} (h : ∀ z ∈ zs, Word z) : PyData.eqv (pts zs) (pts zs) = true := SeqAt.eqv_refl _ (SeqAt.canLay_of_shaped (pts_shaped h))
theorem strs_dp {K : PySem.W.Frag} {H : Hp} : ∀ zs : List Str, DpAll K H (zs.map V.str) (zs.map .str)
  | [] => .nil
  | z :: zs => .cons (.str z) (strs_dp zs)
def spLawR (K : PySem.W.Frag) : Sp := fun vs H Q _ => ∃ (a : Addr) (ns : List Int), vs = [.ref a] ∧ SqL K H a (ns.map V.int) ∧ ns.length ≤ 63 ∧ ∀ H', Q (.bl true) H'
end Cs

set_option Elab.async false
set_option linter.all false
set_option maxRecDepth 100000
set_option maxHeartbeats 8000000
set_option pp.maxSteps 600
/-! The law of rules made: its helpers. -/
namespace Cs
open PySem L2
/-! ### the four rules of two ends -/
def rowC : Nat → RCl
  | 0 => .al
  | 1 => .am
  | 2 => .bt
  | _ => .ex
def rowL (lo : Int) : Nat → Int
  | 1 => 0
  | _ => lo
def rowM (lo hi : Int) : Nat → Option Int
  | 0 => none
  | 1 => some hi
  | 2 => some hi
  | _ => some lo
def FourAt (a : RAd) (H : Hp) (q : Addr) (lo hi : Int) (ks : List Str) : Prop := ∃ ps : List Addr, H q = some (.lst (ps.map V.ref)) ∧ ps.length = 4 ∧ ∀ j p, ps[j]? = some p → RulAt a H p (rowC j) (rowL lo j) (rowM lo hi j) ks
theorem FourAt.same {a : RAd} {H H' : Hp} {q : Addr} {lo hi : Int} {ks : List Str} (s : Same H H') (h : FourAt a H q lo hi ks) : FourAt a H' q lo hi ks := by
  obtain ⟨ps, h1, h2, h3⟩ := h
  exact ⟨ps, s _ _ h1, h2, fun j p e => (h3 j p e).same s⟩
theorem FourAt.mk {a : RAd} {H : Hp} {q p1 p2 p3 p4 : Addr} {lo hi : Int} {ks : List Str} (h : H q = some (.lst [.ref p1, .ref p2, .ref p3, .ref p4])) (r1 : RulAt a H p1 .al lo none ks) (r2 : RulAt a H p2 .am 0 (some hi) ks) (r3 : RulAt a H p3 .bt lo (some hi) ks) (r4 : RulAt a H p4 .ex lo (some lo) ks) : FourAt a H q lo hi ks := by
  refine ⟨[p1, p2, p3, p4], h, rfl, fun j p e => ?_⟩
  match j, e with
  | 0, e => cases e; exact r1
  | 1, e => cases e; exact r2
  | 2, e => cases e; exact r3
  | 3, e => cases e; exact r4
def spFour (a : RAd) : Sp := fun vs H Q _ => ∃ (lo hi : Int) (kl : Addr) (ks : List Str), vs = [.int lo, .int hi, .ref kl] ∧ Bnd9 lo ∧ Bnd9 hi ∧ lo ≤ hi ∧ H kl = some (.lst (ks.map V.str)) ∧ Kinds ks ∧ ∀ (q : Addr) (H' : Hp), H q = none → Same H H' → FourAt a H' q lo hi ks → Q (.ref q) H'
def EndsAt (H : Hp) (e : Addr) (lo hi : Int) : Prop := ∃ ts : List Addr, H e = some (.lst (ts.map V.ref)) ∧ ts.length = 4 ∧ ∀ j t, ts[j]? = some t → H t = some (.tup [.int (rowL lo j), optV (rowM lo hi j)])
theorem EndsAt.same {H H' : Hp} {e : Addr} {lo hi : Int} (s : Same H H') (h : EndsAt H e lo hi) : EndsAt H' e lo hi := by
  obtain ⟨ts, h1, h2, h3⟩ := h
  exact ⟨ts, s _ _ h1, h2, fun j t e => s _ _ (h3 j t e)⟩
def spEnds : Sp := fun vs H Q _ => ∃ lo hi : Int, vs = [.int lo, .int hi] ∧ ∀ (e : Addr) (H' : Hp), H e = none → Same H H' → EndsAt H' e lo hi → Q (.ref e) H'
section
variable {P : Program} {w : World} {K : PySem.W.Frag} {mg : Str → Option Value} {base : Heap}
theorem ok_four {f : Addr} {fd : FuncData} {a : RAd} (F : Fun K "_law_four" "_law_four" s_l_four f fd) (g : Bi mg) (W : RMk P w K mg base a) : FnOk P w K mg base CX0 9 f fd ["_law_low", "_law_high", "_law_kinds_here"] (spFour a) := by
  obtain ⟨fL, mkL, iL⟩ := W.al
  obtain ⟨fM, mkM, iM⟩ := W.am
  obtain ⟨fB, mkB, iB⟩ := W.bt
  obtain ⟨fX, mkX, iX⟩ := W.ex
  have Wo := W.wo
  refine F.ok sc_l_four (fun vs H Q E h => ?_) (fun cdv A outer s H vs Q E hr h => ?_)
  · obtain ⟨_, _, _, _, rfl, _⟩ := h
    rfl
  · obtain ⟨lo, hi, kl, ks, rfl, hlo, hhi, hle, hk, hK, k⟩ := h
    have hrMk : Room 8 _ := hr
    refine ⟨_, (pss_cons (ps_set (i := 3) sc_l_four.nd rfl (Or.inl rfl) (pe_ix ix_list (pv 2) pe_int (fun _ _ => rfl)))
      (pss_cons (ps_if (pt_cmpR op_eq (pe_callB call_len (by rfl) g.len PySem.boot_len (pa_cons (pv 2) pa_nil)) pe_int (nomark _)) (pss_one (ps_ret (pe_lst (pa_cons (StX.pe_makeR mkL iL hrMk rfl Wo.mal pass0 (pa_cons (pv 0) (pa_cons (pv 3) pa_nil))) (pa_cons (StX.pe_makeR mkM iM hrMk rfl Wo.mam pass0 (pa_cons (pv 1) (pa_cons (pv 3) pa_nil))) (pa_cons (StX.pe_makeR mkB iB hrMk rfl Wo.mbt pass0 (pa_cons (pv 0) (pa_cons (pv 1) (pa_cons (pv 3) pa_nil)))) (pa_cons (StX.pe_makeR mkX iX hrMk rfl Wo.mex pass0 (pa_cons (pv 0) (pa_cons (pv 3) pa_nil))) pa_nil))))))) pss_nil)
      (pss_cons (ps_set (i := 4) sc_l_four.nd rfl (Or.inl rfl) (pe_ix ix_list (pv 2) pe_int (fun _ _ => rfl)))
      (pss_cons (ps_if (pt_cmpR op_eq (pe_callB call_len (by rfl) g.len PySem.boot_len (pa_cons (pv 2) pa_nil)) pe_int (nomark _)) (pss_one (ps_ret (pe_lst (pa_cons (StX.pe_makeR mkL iL hrMk rfl Wo.mal pass0 (pa_cons (pv 0) (pa_cons (pv 3) (pa_cons (pv 4) pa_nil)))) (pa_cons (StX.pe_makeR mkM iM hrMk rfl Wo.mam pass0 (pa_cons (pv 1) (pa_cons (pv 3) (pa_cons (pv 4) pa_nil)))) (pa_cons (StX.pe_makeR mkB iB hrMk rfl Wo.mbt pass0 (pa_cons (pv 0) (pa_cons (pv 1) (pa_cons (pv 3) (pa_cons (pv 4) pa_nil))))) (pa_cons (StX.pe_makeR mkX iX hrMk rfl Wo.mex pass0 (pa_cons (pv 0) (pa_cons (pv 3) (pa_cons (pv 4) pa_nil)))) pa_nil))))))) pss_nil)
      (pss_cons (ps_set (i := 5) sc_l_four.nd rfl (Or.inl rfl) (pe_ix ix_list (pv 2) pe_int (fun _ _ => rfl)))
      (pss_cons (ps_set (i := 6) sc_l_four.nd rfl (Or.inl rfl) (pe_lst (pa_cons (StX.pe_makeR mkL iL hrMk rfl Wo.mal pass0 (pa_cons (pv 0) (pa_cons (pv 3) (pa_cons (pv 4) (pa_cons (pv 5) pa_nil))))) (pa_cons (StX.pe_makeR mkM iM hrMk rfl Wo.mam pass0 (pa_cons (pv 1) (pa_cons (pv 3) (pa_cons (pv 4) (pa_cons (pv 5) pa_nil))))) pa_nil))))
      (pss_one (ps_ret (pe_op op_cat (pv 6) (pe_lst (pa_cons (StX.pe_makeR mkB iB hrMk rfl Wo.mbt pass0 (pa_cons (pv 0) (pa_cons (pv 1) (pa_cons (pv 3) (pa_cons (pv 4) (pa_cons (pv 5) pa_nil)))))) (pa_cons (StX.pe_makeR mkX iX hrMk rfl Wo.mex pass0 (pa_cons (pv 0) (pa_cons (pv 3) (pa_cons (pv 4) (pa_cons (pv 5) pa_nil))))) pa_nil)))))))))))), ?_⟩
    rcases kinds_cases hK with ⟨x, rfl⟩ | ⟨x, y, rfl⟩ | ⟨x, y, z, rfl⟩
    · refine ⟨_, rfl, kl, _, _, _, rfl, rfl, SqL.of hk, at_of (z := 0) (j := 0) (by omega) rfl, ?_⟩
      refine ⟨_, rfl, _, _, rfl, .inl ⟨_, SqL.of hk, rfl⟩, rfl, _, rfl, iteT ?_⟩
      refine ⟨_, rfl, _, rfl, mk_al (ks := [x]) hlo hK fun p1 H1 n1 s1 r1 => ?_⟩
      refine ⟨_, rfl, _, rfl, mk_am (ks := [x]) hhi hK fun p2 H2 n2 s2 r2 => ?_⟩
      refine ⟨_, rfl, _, rfl, _, rfl, mk_bt (ks := [x]) hlo hhi hle hK fun p3 H3 n3 s3 r3 => ?_⟩
      refine ⟨_, rfl, _, rfl, mk_ex (ks := [x]) hlo hK fun p4 H4 n4 s4 r4 => ?_⟩
      refine ⟨by show 4 ≤ sizeLine; decide, fun q hq => ?_⟩
      have s5 : Same H4 (upd H4 q (.lst [.ref p1, .ref p2, .ref p3, .ref p4])) := Same.new hq
      have s14 := ((s1.trans s2).trans s3).trans s4
      exact k q _ (s14.free hq) (s14.trans s5) (.mk upd_same (r1.same (((s2.trans s3).trans s4).trans s5)) (r2.same ((s3.trans s4).trans s5)) (r3.same (s4.trans s5)) (r4.same s5))
    · refine ⟨_, rfl, kl, _, _, _, rfl, rfl, SqL.of hk, at_of (z := 0) (j := 0) (by omega) rfl, ?_⟩
      refine ⟨_, rfl, _, _, rfl, .inl ⟨_, SqL.of hk, rfl⟩, rfl, _, rfl, iteF ?_⟩
      refine ⟨_, rfl, kl, _, _, _, rfl, rfl, SqL.of hk, at_of (z := 1) (j := 1) (by omega) rfl, ?_⟩
      refine ⟨_, rfl, _, _, rfl, .inl ⟨_, SqL.of hk, rfl⟩, rfl, _, rfl, iteT ?_⟩
      refine ⟨_, rfl, _, rfl, _, rfl, mk_al (ks := [x, y]) hlo hK fun p1 H1 n1 s1 r1 => ?_⟩
      refine ⟨_, rfl, _, rfl, _, rfl, mk_am (ks := [x, y]) hhi hK fun p2 H2 n2 s2 r2 => ?_⟩
      refine ⟨_, rfl, _, rfl, _, rfl, _, rfl, mk_bt (ks := [x, y]) hlo hhi hle hK fun p3 H3 n3 s3 r3 => ?_⟩
      refine ⟨_, rfl, _, rfl, _, rfl, mk_ex (ks := [x, y]) hlo hK fun p4 H4 n4 s4 r4 => ?_⟩
      refine ⟨by show 4 ≤ sizeLine; decide, fun q hq => ?_⟩
      have s5 : Same H4 (upd H4 q (.lst [.ref p1, .ref p2, .ref p3, .ref p4])) := Same.new hq
      have s14 := ((s1.trans s2).trans s3).trans s4
      exact k q _ (s14.free hq) (s14.trans s5) (.mk upd_same (r1.same (((s2.trans s3).trans s4).trans s5)) (r2.same ((s3.trans s4).trans s5)) (r3.same (s4.trans s5)) (r4.same s5))
    · refine ⟨_, rfl, kl, _, _, _, rfl, rfl, SqL.of hk, at_of (z := 0) (j := 0) (by omega) rfl, ?_⟩
      refine ⟨_, rfl, _, _, rfl, .inl ⟨_, SqL.of hk, rfl⟩, rfl, _, rfl, iteF ?_⟩
      refine ⟨_, rfl, kl, _, _, _, rfl, rfl, SqL.of hk, at_of (z := 1) (j := 1) (by omega) rfl, ?_⟩
      refine ⟨_, rfl, _, _, rfl, .inl ⟨_, SqL.of hk, rfl⟩, rfl, _, rfl, iteF ?_⟩
      refine ⟨_, rfl, kl, _, _, _, rfl, rfl, SqL.of hk, at_of (z := 2) (j := 2) (by omega) rfl, ?_⟩
      refine ⟨_, rfl, _, rfl, _, rfl, _, rfl, mk_al (ks := [x, y, z]) hlo hK fun p1 H1 n1 s1 r1 => ?_⟩
      refine ⟨_, rfl, _, rfl, _, rfl, _, rfl, mk_am (ks := [x, y, z]) hhi hK fun p2 H2 n2 s2 r2 => ?_⟩
      refine ⟨by show 2 ≤ sizeLine; decide, fun b1 hb1 => ?_⟩
      have t1 : Same H2 (upd H2 b1 (.lst [.ref p1, .ref p2])) := Same.new hb1
      have g1 : (upd H2 b1 (.lst [.ref p1, .ref p2])) b1 = some (.lst [.ref p1, .ref p2]) := upd_same
      generalize upd H2 b1 (.lst [.ref p1, .ref p2]) = H2' at t1 g1
      refine ⟨_, rfl, ?_⟩
      refine ⟨_, rfl, _, rfl, _, rfl, _, rfl, _, rfl, mk_bt (ks := [x, y, z]) hlo hhi hle hK fun p3 H3 n3 s3 r3 => ?_⟩
      refine ⟨_, rfl, _, rfl, _, rfl, _, rfl, mk_ex (ks := [x, y, z]) hlo hK fun p4 H4 n4 s4 r4 => ?_⟩
      refine ⟨by show 2 ≤ sizeLine; decide, fun b2 hb2 => ?_⟩
      have t2 : Same H4 (upd H4 b2 (.lst [.ref p3, .ref p4])) := Same.new hb2
      have g2 : (upd H4 b2 (.lst [.ref p3, .ref p4])) b2 = some (.lst [.ref p3, .ref p4]) := upd_same
      generalize upd H4 b2 (.lst [.ref p3, .ref p4]) = H4' at t2 g2
      refine ⟨b1, b2, _, _, rfl, rfl, ((s3.trans s4).trans t2) _ _ g1, g2, by show 4 ≤ sizeLine; decide, fun q hq => ?_⟩
      have s5 : Same H4' (upd H4' q (.lst ([.ref p1, .ref p2] ++ [.ref p3, .ref p4]))) := Same.new hq
      have s14 := (((((s1.trans s2).trans t1).trans s3).trans s4).trans t2)
      exact k q _ (s14.free hq) (s14.trans s5) (.mk upd_same (r1.same (((((s2.trans t1).trans s3).trans s4).trans t2).trans s5)) (r2.same ((((t1.trans s3).trans s4).trans t2).trans s5)) (r3.same ((s4.trans t2).trans s5)) (r4.same (t2.trans s5)))
theorem ok_ends {f : Addr} {fd : FuncData} (F : Fun K "_law_ends" "_law_ends" s_l_ends f fd) (g : Bi mg) : FnOk P w K mg base CX0 1 f fd ["_law_low", "_law_high"] spEnds := by
  refine F.ok sc_l_ends (fun vs H Q E h => ?_) (fun cdv A outer s H vs Q E hr h => ?_)
  · obtain ⟨_, _, rfl, _⟩ := h
    rfl
  · obtain ⟨lo, hi, rfl, k⟩ := h
    refine ⟨_, (pss_one (ps_ret (pe_lst (pa_cons (pe_tup (pa_cons (pv 0) (pa_cons pe_non pa_nil))) (pa_cons (pe_tup (pa_cons pe_int (pa_cons (pv 1) pa_nil))) (pa_cons (pe_tup (pa_cons (pv 0) (pa_cons (pv 1) pa_nil))) (pa_cons (pe_tup (pa_cons (pv 0) (pa_cons (pv 0) pa_nil))) pa_nil))))))), ?_⟩
    refine ⟨_, rfl, by show 2 ≤ sizeLine; decide, fun t1 ht1 => ?_⟩
    have s1 : Same H (upd H t1 (.tup [.int lo, .non])) := Same.new ht1
    have g1 : (upd H t1 (.tup [.int lo, .non])) t1 = some (.tup [.int lo, .non]) := upd_same
    generalize upd H t1 (.tup [.int lo, .non]) = H1 at s1 g1
    refine ⟨_, rfl, by show 2 ≤ sizeLine; decide, fun t2 ht2 => ?_⟩
    have s2 : Same H1 (upd H1 t2 (.tup [.int 0, .int hi])) := Same.new ht2
    have g2 : (upd H1 t2 (.tup [.int 0, .int hi])) t2 = some (.tup [.int 0, .int hi]) := upd_same
    generalize upd H1 t2 (.tup [.int 0, .int hi]) = H2 at s2 g2
    refine ⟨_, rfl, _, rfl, by show 2 ≤ sizeLine; decide, fun t3 ht3 => ?_⟩
    have s3 : Same H2 (upd H2 t3 (.tup [.int lo, .int hi])) := Same.new ht3
    have g3 : (upd H2 t3 (.tup [.int lo, .int hi])) t3 = some (.tup [.int lo, .int hi]) := upd_same
    generalize upd H2 t3 (.tup [.int lo, .int hi]) = H3 at s3 g3
    refine ⟨_, rfl, _, rfl, by show 2 ≤ sizeLine; decide, fun t4 ht4 => ?_⟩
    have s4 : Same H3 (upd H3 t4 (.tup [.int lo, .int lo])) := Same.new ht4
    have g4 : (upd H3 t4 (.tup [.int lo, .int lo])) t4 = some (.tup [.int lo, .int lo]) := upd_same
    generalize upd H3 t4 (.tup [.int lo, .int lo]) = H4 at s4 g4
    refine ⟨by show 4 ≤ sizeLine; decide, fun q hq => ?_⟩
    have s5 : Same H4 (upd H4 q (.lst [.ref t1, .ref t2, .ref t3, .ref t4])) := Same.new hq
    have s14 := ((s1.trans s2).trans s3).trans s4
    refine k q _ (s14.free hq) (s14.trans s5) ⟨[t1, t2, t3, t4], upd_same, rfl, fun j t e => ?_⟩
    match j, e with
    | 0, e => cases e; exact (((s2.trans s3).trans s4).trans s5) _ _ g1
    | 1, e => cases e; exact ((s3.trans s4).trans s5) _ _ g2
    | 2, e => cases e; exact (s4.trans s5) _ _ g3
    | 3, e => cases e; exact s5 _ _ g4
end
end Cs

set_option Elab.async false
set_option linter.all false
set_option maxRecDepth 100000
set_option maxHeartbeats 4000000
/-! Own errors with one field. -/
namespace Cs
open PySem PySem.Spec PyProof.Rows L2
/-- __init__ of an own error: self.fld = y -/
def spXi (C : Addr) (fld : Str) : Sp := fun vs H Q _ => ∃ (a : Addr) (y : V), vs = [.ref a, y] ∧ H a = some (exo a C none) ∧ ∀ dx, H dx = none → dx ≠ a → Q .non (upd (upd H dx (exd dx [(fld, y)])) a (exo a C (some dx)))
theorem upd_back {H : Hp} {a dx : Addr} {o1 o2 o3 o4 : HO} (ha : H a = none) (n : dx ≠ a) : upd (del (upd (upd (upd H a o1) dx o2) a o3) a) dx o4 = upd H dx o4 := by
  funext b
  by_cases c : b = dx
  · subst c
    rw [upd_same, upd_same]
  · rw [upd_ne c, upd_ne c]
    by_cases e : b = a
    · subst e
      rw [del_same, ha]
    · rw [del_ne e, upd_ne e, upd_ne c, upd_ne e]
theorem xmk {C : Addr} {fld : Str} {y : V} {H1 : Hp} {Q : XK} (k : ∀ dx, H1 dx = none → Q (.ref C) (some dx) (upd H1 dx (.xd [(fld, y)]))) :
    ([y] : List V).length ≤ 1000 ∧ ∀ a, H1 a = none → spXi C fld (.ref a :: ([y] ++ [])) (upd H1 a (exo a C none)) (fun v H2 => v = .non ∧ ∃ (d : Addr) (fs : List (Str × V)), H2 a = some (exo a C (some d)) ∧ H2 d = some (exd d fs) ∧ H1 d = none ∧ Q (.ref C) (some d) (upd (del H2 a) d (.xd fs))) (fun _ _ _ => False) := by
  refine ⟨by show 1 ≤ 1000; decide, fun a ha => ⟨a, y, rfl, upd_same, fun dx hdx ne => ⟨rfl, dx, _, upd_same, by rw [upd_ne ne]; exact upd_same, ?_, ?_⟩⟩⟩
  · rw [upd_ne ne] at hdx
    exact hdx
  · rw [upd_back ha ne]
    exact k dx (by rw [upd_ne ne] at hdx; exact hdx)
/-- an error of the class at S is caught by its own name -/
theorem exm_self {K : PySem.W.Frag} {S : Addr} (h1 : PySem.W.subIn K (.ref S) (.type "BaseException") = some true) (h2 : PySem.W.isClsIn K S = true) (h3 : PySem.W.typeIn K (.ref S) = some (.type "type")) (h4 : PySem.W.subIn K (.ref S) (.ref S) = some true) : PySem.W.exmOne K (.ref S) (.ref S) = some true := by
  have h2' : (PySem.W.clsIn K S).isSome = true := h2
  unfold PySem.W.exmOne PySem.W.kitCls
  simp [h1, h2', h3, h4]
/-- an own error as those have it that raise it -/
structure XDef (P : Program) (w : World) (K : PySem.W.Frag) (mg : Str → Option Value) (base : Heap) (x : Str) (C fI : Addr) (fld : Str) (ps : List Str) (fd : FuncData) : Prop where
  c : OexC K C
  iC : PySem.W.findIn K (.ref C) "__init__" = some (some (.ref fI))
  tI : PySem.W.typeIn K (.ref fI) = some (.type "function")
  ok : FnOk P w K mg base CX0 1 fI fd ps (spXi C fld)
  b : Binds K fd ps []
  mg_ : mg x = some (.ref C)
  te : PySem.W.exmOne K (.ref C) (.ref C) = some true
end Cs

set_option Elab.async false
set_option linter.all false
set_option maxRecDepth 100000
set_option maxHeartbeats 4000000
/-! isinstance(e, C) of a caught error that has its own dict; defs that let nothing out after all. -/
namespace Cs
open PySem PySem.Spec PyProof.Rows L2
section
variable {prog : Program} {w : World} {A : Around} {E : Value → Shared → Prop} {s : Shared} {K : PySem.W.Frag} {x D : Addr} {ox od : Obj}
/-- e.__class__ of an error with a dict -/
theorem exd_class {Q : Option Value → Shared → Prop} (C : ExcC K D) (X : K.In s.heap) (I : PySem.W.InstAt s.heap x ox D (some od)) (h : Q (some (.ref D)) { s with toks := s.toks + 1 }) : wpAny (model prog w) A (getAttr? (.ref x) "__class__") Q E s := by
  have hf : PySem.W.findObj K D (some od) "__class__" = some (.bind (.builtin "getset_descriptor.__get__") (.builtin "object.__class__")) := PySem.W.findObj_data (by obtain ⟨cd, hc, _⟩ := PySem.W.any_some C.hd; rw [hc]; rfl) C.ha C.hn C.ht
  obtain ⟨hp, g, d, t, os⟩ := s
  have T0 := I.type (M := model prog w)
  have T1 := PySem.W.looks_findIn (M := model prog w) X C.hg
  have T2 := PySem.W.looks_findIn (M := model prog w) X C.hk
  have T3 := PySem.W.looks_find (M := model prog w) X I hf
  have up : PySem.W.Looks (model prog w) hp (isInstance (.ref x) (.type "BaseException")) true := T0.andThen (PySem.W.looks_subIn X C.hs)
  have e2 : (Value.builtin "BaseException.__getattribute__" == Value.builtin "object.__getattribute__") = false := by decide +kernel
  have e1 : (onTheHeap (Value.ref D) && Value.builtin "BaseException.__getattribute__" == Value.builtin "object.__getattribute__") = false := by rw [e2]; rfl
  unfold getAttr?; unfold getAttrBy?; unfold getAttrBy
  refine wpAny_bind (wpAny_mkText (wpAny_bind (wpAny_attempt (wpAny_holding (wpAny_bind (T0.at (wpAny_bind (T1.at ?_))))))))
  show wpAny _ _ (if (onTheHeap (Value.ref D) && Value.builtin "BaseException.__getattribute__" == Value.builtin "object.__getattribute__") = true then _ else _) _ _ _
  rw [e1, if_neg Bool.false_ne_true]; unfold getAttrByItsOwn; unfold hookBefore
  refine wpAny_bind ?_; rw [if_pos (show onTheHeap (Value.ref D) = true from rfl)]
  refine T2.at (wpAny_bind (wpAny_attempt (wpAny_holding ?_)))
  unfold callGetattribute; rw [show (false && onTheHeap (Value.builtin "BaseException.__getattribute__")) = false from rfl, if_neg Bool.false_ne_true]; unfold boundAndCalled
  rw [PySem.F.excAttr_ValueError.ga.bind (.ref x)]; refine wpAny_bind (wpAny_pure ?_)
  show wpAny _ _ (call (.builtin "BaseException.__getattribute__") [.ref x, .str "__class__" t]) _ _ _
  refine wpAny_call (codeAny_call_builtin PySem.F.excAttr_ValueError.ga.plain PySem.F.entry_bexc_ga (@PySem.W.check_slot (model prog w) _ _ ⟨hp, g, d, t + 1, os⟩ "BaseException.__getattribute__" "BaseException" "__getattribute__" (.ref x) [.str "__class__" t] [] _ (by decide +kernel) (by decide +kernel) up (PySem.F.args_bexc_ga (.ref x) (.str "__class__" t)) ?_))
  unfold Builtin.«object.__getattribute__»; refine wpAny_bind (wpAny_of_eq (a := ((Value.ref x : Value), [Value.str "__class__" t])) (by first | rfl | (simp only [slotArgs]; rfl)) ?_)
  refine wpAny_bind (wpAny_pure (wpAny_bind (T0.at (wpAny_bind (T3.at ?_))))); show wpAny _ _ (holding [Value.builtin "object.__class__"] (call (.builtin "getset_descriptor.__get__") [.builtin "object.__class__", .ref x, .ref D]) >>= ret) _ _ _
  refine wpAny_bind (wpAny_holding (wpAny_call (PySem.W.class_get (s := ⟨hp, g, d, t + 1, os⟩) (ox := ox) (od := some od) X I C.hm (wpAny_pure ?_)))); show wpAny _ _ (handedOut (.ref D)) _ _ _
  rw [PySem.W.handedOut_of (v := .ref D) rfl]; first | exact wpAny_pure (wpAny_pure h) | exact wpAny_pure h | exact wpAny_pure (wpAny_bind (wpAny_pure (wpAny_pure h)))
theorem exd_kit (C : ExcC K D) : PySem.W.KitX K (.ref x) (.ref D) (fun h => PySem.W.InstAt h x ox D (some od)) := by
  have hc : ∃ c' d' cd' sl', K.lookup D = some ⟨c', d', .cls cd', sl'⟩ := by
    obtain ⟨cdD, hcD, _⟩ := PySem.W.any_some C.hd
    unfold PySem.W.clsIn at hcD
    split at hcD
    · rename_i c' d' cd' sl' ho
      exact ⟨c', d', _, sl', ho⟩
    · cases hcD
  obtain ⟨c', d', cd', sl', ho⟩ := hc
  have h3 : ∀ (h : Heap) (tp : Addr) (dd : Option Addr) (its : Array Value) (n : Nat) (sl : Array (Option Value)), K.In h → h.get? tp = some ⟨.type "tuple", dd, .seq its n, sl⟩ → (Value.ref D == Value.ref tp) = false := fun h tp dd its n sl X htp => by
    refine Bool.eq_false_iff.mpr fun q => ?_
    have e : D = tp := Value.ref.inj (beq_iff_eq.mp q)
    subst e
    have z := (X _ _ ho).symm.trans htp
    cases z
  refine ⟨fun _ _ _ I => I.type, fun _ _ X _ A1 Q1 E1 s1 k q => ?_, fun h tp dd its => h3 h tp dd its.toArray, fun X I k => exd_class C X I k⟩
  unfold isType; unfold loadHead; exact wpAny_bind (wpAny_loadPart (k _ _ (X _ _ ho)) (wpAny_pure q))
end
/-- isinstance(e, c), e the error that the suite holds -/
def rIsD (K : PySem.W.Frag) (a : Addr) (cls : Value) (d : Option Addr) : List V → Hp → VK → Prop := fun xs H Q => ∃ (D dd : Addr) (fs : List (Str × V)) (c : V) (cv : Value) (b : Bool), ExcC K D ∧ cls = .ref D ∧ d = some dd ∧ H dd = some (.xd fs) ∧ xs = [.ref a, c] ∧ (∀ u, RelV c u → u = cv) ∧ PySem.W.kitOne K (.ref D) cv = some b ∧ Q (.bl b) H
theorem call_isD {X : Cx} {a : Addr} {oe : Obj} {cls : Value} {d : Option Addr} {pn : List (Addr × Obj)} (hz : Zc cls d oe) (hf : ∃ vs, oe.data = .fields vs) : CallR (X.suite a ((a, oe) :: pn)) (.builtin "isinstance") (rIsD X.K a cls d) := by
  intro pins s σ H xs us Q I r h
  obtain ⟨D, dd, fs, c, cv, b, C, rfl, rfl, hdd, rfl, hcv, e, q⟩ := h
  cases r with
  | cons rx rr =>
    cases rr with
    | cons rt rr =>
      cases rr
      cases rx
      have ec := hcv _ rt
      subst ec
      obtain ⟨hget, _⟩ := I.pin (a, oe) (List.mem_append.mpr (.inl List.mem_cons_self))
      obtain ⟨vs, hv⟩ := hf
      have hx : ObjOk X.prog X.w H s.heap dd (.xd fs) := I.hok dd _ hdd
      obtain ⟨mA, hns, hr⟩ := hx
      obtain ⟨od, ho, hl⟩ := lookIn_ns hns
      have J : PySem.W.InstAt s.heap a oe D (some od) := ⟨hget, hz.1, by unfold PySem.W.notCls; rw [hv] <;> rfl, by rw [hz.2]; exact ho⟩
      exact PySem.W.kia_one (exd_kit C) I.kIn J e (fun z => nomatch z) fun tk => ⟨.bl b, H, I.kept (t' := tk) fun _ _ z => z, rfl, q⟩
/-- a def whose promise lets nothing out -/
theorem FnR.calm {P : Program} {w : World} {K : PySem.W.Frag} {mg : Str → Option Value} {base : Heap} {k : Nat} {f : Addr} {sp : Sp} (F : FnR P w K mg base (L2.CX P w) k f sp) : FnR P w K mg base CX0 k f (fun vs H Q _ => sp vs H Q fun _ _ _ => False) := by
  intro A outer s H us vs Q E hr e0 r hs
  refine codeAny_mono (F A outer s H us vs Q _ hr e0 r hs) fun r s' h => ?_
  cases r with
  | ok fl => cases fl <;> exact h
  | error e =>
    obtain ⟨_, _, _, _, _, _, _, _, _, _, _, _, z⟩ := h
    exact z.elim
theorem FnOk.calm {P : Program} {w : World} {K : PySem.W.Frag} {mg : Str → Option Value} {base : Heap} {k : Nat} {f : Addr} {fd : FuncData} {ps : List Str} {sp : Sp} (F : FnOk P w K mg base (L2.CX P w) k f fd ps sp) : FnOk P w K mg base CX0 k f fd ps (fun vs H Q _ => sp vs H Q fun _ _ _ => False) := by
  refine ⟨fun vs H Q E h => F.len vs H Q _ h, fun A outer s H args us vs Q E hr e0 b r hs => ?_⟩
  refine codeAny_mono (F.run A outer s H args us vs Q _ hr e0 b r hs) fun r s' h => ?_
  cases r with
  | ok fl => cases fl <;> exact h
  | error e =>
    obtain ⟨_, _, _, _, _, _, _, _, _, _, _, _, z⟩ := h
    exact z.elim
end Cs

set_option Elab.async false
set_option linter.all false
set_option maxRecDepth 100000
set_option maxHeartbeats 4000000
set_option pp.maxSteps 600
/-! Rules made of any values, or BadRule raised. -/
namespace Cs
open PySem L2 NdefX
/-- the values that are handed in -/
inductive VO (H : Hp) : V → Prop where
  | non : VO H .non
  | bl (b : Bool) : VO H (.bl b)
  | int (n : Int) : VO H (.int n)
  | str (z : Str) (h : z.length ≤ 100000) : VO H (.str z)
  | lst {a : Addr} {xs : List V} (h : H a = some (.lst xs)) : VO H (.ref a)
  | tup {a : Addr} {xs : List V} (h : H a = some (.tup xs)) : VO H (.ref a)
def bndV : V → Bool
  | .int n => decide (0 ≤ n) && decide (n ≤ 9)
  | _ => false
def kndV : V → Bool
  | .str z => kindB z
  | _ => false
theorem VO.up {H H' : Hp} {v : V} {x C dx : Addr} {fs : List (Str × V)} (h : VO H v) (hx : H x = some (.ins C dx fs)) (k : ∀ b o, H b = some o → b ≠ x → H' b = some o) : VO H' v := by
  cases h with
  | non => exact .non
  | bl b => exact .bl b
  | int n => exact .int n
  | str z h => exact .str z h
  | lst h => exact .lst (k _ _ h (ne_of h hx (by intro z; cases z)))
  | tup h => exact .tup (k _ _ h (ne_of h hx (by intro z; cases z)))
theorem VO.same {H H' : Hp} {v : V} (s : Same H H') (h : VO H v) : VO H' v := by
  cases h with
  | non => exact .non
  | bl b => exact .bl b
  | int n => exact .int n
  | str z h => exact .str z h
  | lst h => exact .lst (s _ _ h)
  | tup h => exact .tup (s _ _ h)
theorem bnd_ask {K : PySem.W.Frag} {H : Hp} {v : V} {Q : VK} {E : XK} (h : VO H v) (q : Q (.bl (bndV v)) H) : spIsBound K [v] H Q E := by
  cases h with
  | non => exact .inr ⟨_, rfl, ⟨"NoneType", .base .non, .inr (by decide +kernel)⟩, q⟩
  | bl b => exact .inr ⟨_, rfl, ⟨"bool", .base (.bl b), .inl rfl⟩, q⟩
  | int n => exact .inl ⟨n, rfl, q⟩
  | str z h => exact .inr ⟨_, rfl, ⟨"str", .base (.str z), .inr (by decide +kernel)⟩, q⟩
  | lst h => exact .inr ⟨_, rfl, ⟨"list", .base (.lst h), .inr (by decide +kernel)⟩, q⟩
  | tup h => exact .inr ⟨_, rfl, ⟨"tuple", .base (.tup h), .inr (by decide +kernel)⟩, q⟩
theorem knd_ask {K : PySem.W.Frag} {H : Hp} {v : V} {Q : VK} {E : XK} (h : VO H v) (q : ∀ H', Same H H' → Q (.bl (kndV v)) H') : spIsKind K [v] H Q E := by
  have q0 := q H (Same.refl H)
  cases h with
  | non => exact .inr ⟨_, "NoneType", rfl, .base .non, by decide +kernel, q0⟩
  | bl b => exact .inr ⟨_, "bool", rfl, .base (.bl b), by decide +kernel, q0⟩
  | int n => exact .inr ⟨_, "int", rfl, .base (.int n), by decide +kernel, q0⟩
  | str z h => exact .inl ⟨z, rfl, h, q⟩
  | lst h => exact .inr ⟨_, "list", rfl, .base (.lst h), by decide +kernel, q0⟩
  | tup h => exact .inr ⟨_, "tuple", rfl, .base (.tup h), by decide +kernel, q0⟩
theorem nil_it {σ : L2.St} {H : Hp} {k : List V → Hp → Prop} (h : k [] H) : tNil σ H k := h
theorem bndV_int {v : V} (h : bndV v = true) : ∃ n, v = .int n ∧ Bnd9 n := by
  cases v with
  | int n =>
    have h : (decide (0 ≤ n) && decide (n ≤ 9)) = true := h
    rw [Bool.and_eq_true, decide_eq_true_eq, decide_eq_true_eq] at h
    exact ⟨n, rfl, h⟩
  | _ => cases h
theorem kndV_str {v : V} (h : kndV v = true) : ∃ z, v = .str z ∧ kindB z = true := by
  cases v with
  | str z => exact ⟨z, rfl, h⟩
  | _ => cases h
theorem knd_strs {ks : List V} (h : ks.all kndV = true) : ∃ zs : List Str, ks = zs.map V.str := by
  induction ks with
  | nil => exact ⟨[], rfl⟩
  | cons v ks ih =>
    rw [List.all_cons, Bool.and_eq_true] at h
    obtain ⟨z, rfl, _⟩ := kndV_str h.1
    obtain ⟨zs, rfl⟩ := ih h.2
    exact ⟨z :: zs, rfl⟩
/-- one to three kinds, none twice -/
def kindsV (ks : List V) : Bool := (decide (1 ≤ ks.length) && decide (ks.length ≤ 3)) && (ks.all kndV && decide ks.Nodup)
/-- BadRule is raised -/
def BadR (B : Addr) (H : Hp) (x : Addr) (z : Str) (E : XK) : Prop := ∀ (H' : Hp) (dd : Addr), (∀ b o, H b = some o → b ≠ x → H' b = some o) → H' dd = none → E (.ref B) (some dd) (upd H' dd (.xd [(("what" : Str), .str z)]))
def RulNewV (C : Addr) (H : Hp) (Q : VK) (x dx : Addr) (ks : List V) (F : Addr → List (Str × V)) : Prop :=
  ∀ (kt : Addr) (H' : Hp), H kt = none → H' kt = some (.tup ks) → H' x = some (.ins C dx (F kt)) → (∀ b o, H b = some o → b ≠ x → H' b = some o) → Q .non H'
/-- good kinds and what follows, or bad ones -/
def EndK (B C : Addr) (H : Hp) (Q : VK) (E : XK) (x dx : Addr) (ks : List V) (F : Addr → List (Str × V)) : Prop := (kindsV ks = true ∧ RulNewV C H Q x dx ks F) ∨ (kindsV ks = false ∧ BadR B H x "kinds" E)
def spRuleBX (B C : Addr) : Sp := fun vs H Q E => ∃ (x kt dx : Addr) (fs : List (Str × V)) (ks : List V), vs = [.ref x, .ref kt] ∧ H x = some (.ins C dx fs) ∧ fs.length < 900 ∧ H kt = some (.tup ks) ∧ ks.length ≤ 100 ∧ (∀ v ∈ ks, VO H v) ∧
  ((kindsV ks = true ∧ ∀ H', H' x = some (.ins C dx (putF "kinds" (.ref kt) fs)) → (∀ b o, H b = some o → b ≠ x → H' b = some o) → Q .non H') ∨ (kindsV ks = false ∧ BadR B H x "kinds" E))
def spRuleX (B C : Addr) : Sp := fun vs H Q E => ∃ (x dx : Addr) (fs : List (Str × V)) (ks : List V), vs = .ref x :: ks ∧ H x = some (.ins C dx fs) ∧ fs.length < 900 ∧ ks.length ≤ 100 ∧ (∀ v ∈ ks, VO H v) ∧ EndK B C H Q E x dx ks (fun kt => putF "kinds" (.ref kt) fs)
theorem str_inj_nodup {zs : List Str} : (zs.map V.str).Nodup ↔ zs.Nodup := by
  rw [List.Nodup, List.pairwise_map]
  constructor
  · exact fun h => h.imp fun n e => n (by rw [e])
  · exact fun h => h.imp fun n e => n (V.str.inj e)
theorem nd_of_len {ws zs : List Str} (hw : ws.Nodup) (hm : ∀ z, z ∈ ws ↔ z ∈ zs) (q : zs.length ≤ ws.length) : zs.Nodup := by
  induction zs generalizing ws with
  | nil => exact List.nodup_nil
  | cons z zs ih =>
    rw [List.length_cons] at q
    by_cases hz : z ∈ zs
    · have := nd_len hw (ys := zs) fun y hy => by
        rcases List.mem_cons.mp ((hm y).mp hy) with e | e
        · rw [e]; exact hz
        · exact e
      omega
    · have hzw : z ∈ ws := (hm z).mpr List.mem_cons_self
      refine List.nodup_cons.mpr ⟨hz, ih (ws := ws.erase z) (hw.erase z) (fun y => ?_) ?_⟩
      · rw [hw.mem_erase_iff, hm y, List.mem_cons]
        constructor
        · rintro ⟨a, b | b⟩
          · exact absurd b a
          · exact b
        · exact fun h => ⟨fun e => hz (e ▸ h), .inr h⟩
      · rw [List.length_erase_of_mem hzw]
        omega
section
variable {P : Program} {w : World} {K : PySem.W.Frag} {mg : Str → Option Value} {base : Heap}
theorem ok_xrule {B f : Addr} {fd : FuncData} (F : Fun K "__init__" "BadRule.__init__" s_BadRule_init f fd) (T : OexC K B) (hno : PySem.W.findIn K (.ref B) "what" = some none) : FnOk P w K mg base CX0 1 f fd ["self", "what"] (spXi B "what") := by
  refine F.ok sc_BadRule_init (fun vs H Q E h => ?_) (fun cdv A outer s H vs Q E hr h => ?_)
  · obtain ⟨_, _, rfl, _⟩ := h
    rfl
  · obtain ⟨a, y, rfl, ha, k⟩ := h
    refine ⟨_, (pss_one (ps_ost (pv 0) (pv 1))), ?_⟩
    exact ⟨_, rfl, _, rfl, a, B, rfl, T, hno, .inl ⟨ha, fun dx hdx ne => k dx hdx ne⟩⟩
theorem rule_bodyX {B C f fIk fDt fX : Addr} {fdIk fdDt fdX : FuncData} {cdv : Value} {A : Around} {outer : List Env} {s : Shared} {H : Hp} {vs : List V} {Q : VK} {E : XK} (g : Bi mg) (R : RC K C)
    (FIk : Def P w K mg base CX0 2 "is_kind" ["thing"] (spIsKind K) fIk fdIk) (FDt : Def P w K mg base CX0 1 "distinct" ["words"] (spDistinctT K) fDt fdDt) (XB : XDef P w K mg base "BadRule" B fX "what" ["self", "what"] fdX)
    (hr : Room 2 (A.deeper (PyProof.Rows.envOfC "Rule.__init__" (defScope s_Rule_init) s.heap.objs.size f cdv))) (h : spRuleBX B C vs H Q E) :
    ∃ t, PSs (cxOf (L2.CX P w) P w K mg base ["self", "kinds", "kind"] "Rule.__init__" (defScope s_Rule_init) f cdv A outer s H E) (defBody s_Rule_init) t ∧ t { nx := fun _ H' => Q .non H', rt := Q } (L2.start ["self", "kinds", "kind"] vs) H := by
  obtain ⟨GIk, mIk, _, bIk⟩ := id FIk
  obtain ⟨GDi, mDi, _, bDi⟩ := id FDt
  have FDi := FDt
  have hrIk : Room 2 _ := hr
  have hrX : Room 2 _ := hr
  have hrDi : Room 1 _ := hr.mono (by decide)
  obtain ⟨x, kt, dx, fs, ks, rfl, hx, hfs, hkt, hln, hV, k⟩ := h
  refine ⟨_, (pss_cons (ps_if (PW.pt (pw_or (pt_not (pt_chain op_le op_le pe_int (pe_callB call_len (by rfl) g.len PySem.boot_len (pa_cons (pv 1) pa_nil)) pe_int)) (pw_or1 (pt_not (pt_val (pe_callB (cr_all rfl) (by rfl) g.all (by decide +kernel) (pa_cons (pe_lc (own := [("kind", 2)]) (g := gName 2)  (by rfl) sc_Rule_init.nd (pi_tup (pv 1)) (blkOk_by (own := [("kind", 2)]) (N := ["self", "kinds", "kind"]) (sc := defScope s_Rule_init) (by decide +kernel)) (fun _ _ _ _ _ => (pg_name (i := 2) sc_Rule_init.nd rfl (Or.inl rfl))) (fun _ _ _ _ _ => pts_nil) (fun _ _ _ _ _ => (pe_call GIk hrIk rfl mIk FIk.kp bIk .nil pass0 (pa_cons (pv 2) pa_nil)))) pa_nil))))))) (pss_one (ps_raise rfl (takes_of rfl rfl rfl rfl) (pmk_oex XB.c XB.iC XB.tI XB.ok hrX XB.b .nil pass0 rfl XB.mg_ (pa_cons pe_str pa_nil)))) pss_nil)
      (pss_cons (ps_if (pt_cmpR op_lt (pe_callB call_len (by rfl) g.len PySem.boot_len (pa_cons (pe_call GDi hrDi rfl mDi FDi.kp bDi .nil pass0 (pa_cons (pv 1) pa_nil)) pa_nil)) (pe_callB call_len (by rfl) g.len PySem.boot_len (pa_cons (pv 1) pa_nil)) (nomark _)) (pss_one (ps_raise rfl (takes_of rfl rfl rfl rfl) (pmk_oex XB.c XB.iC XB.tI XB.ok hrX XB.b .nil pass0 rfl XB.mg_ (pa_cons pe_str pa_nil)))) pss_nil)
      (pss_one (ps_fld (pv 0) (pe_callTy call_tuple_of (by rfl) g.tuple (by decide +kernel) (pa_cons (pv 1) pa_nil)) rfl)))), ?_⟩
  have bad : ∀ {H1 : Hp}, Same H H1 → kindsV ks = false → _ := fun {H1} s1 hb => xmk (C := B) (fld := "what") (y := .str "kinds") (H1 := H1) (Q := E) fun dd hdd => by
    rcases k with ⟨h1, _⟩ | ⟨_, k⟩
    · rw [hb] at h1; cases h1
    · exact k H1 dd (fun b o e _ => s1 b o e) hdd
  refine ⟨_, rfl, _, _, rfl, .inr ⟨_, SqT.of hkt, rfl⟩, _, _, rfl, rfl, _, rfl, ?_⟩
  by_cases c1 : 1 ≤ ks.length
  case neg =>
    rw [decide_eq_false (show ¬ (1 : Int) ≤ (ks.length : Int) by omega)]
    refine iteF ⟨_, rfl, iteT ?_⟩
    exact bad (Same.refl H) (by unfold kindsV; rw [decide_eq_false c1]; rfl)
  rw [decide_eq_true (show (1 : Int) ≤ (ks.length : Int) by omega)]
  refine iteT ⟨_, _, rfl, rfl, _, rfl, ?_⟩
  by_cases c2 : ks.length ≤ 3
  case neg =>
    rw [decide_eq_false (show ¬ (ks.length : Int) ≤ 3 by omega)]
    refine iteT ?_
    exact bad (Same.refl H) (by unfold kindsV; rw [decide_eq_false c2, Bool.and_false]; rfl)
  rw [decide_eq_true (show (ks.length : Int) ≤ 3 by omega)]
  refine iteF ?_
  refine ⟨_, rfl, kt, rfl, ⟨_, SqT.of hkt⟩, fun D hD => lc_valsT (ys := ks.map fun v => V.bl (kndV v)) (by rw [List.length_map]) hkt hD (by omega) (fun _ => rfl) (fun i a b ha hb H' s' Qe qk => ?_) fun H1 s1 hD1 => ?_⟩
  · rw [List.getElem?_map, ha] at hb
    obtain rfl := Option.some.inj hb
    exact ⟨_, rfl, nil_it <| knd_ask ((hV a (List.mem_of_getElem? ha)).same s') fun H2 s2 => qk H2 s2⟩
  refine ⟨D, ks.map kndV, rfl, SqL.of (by rw [hD1, List.map_map]; rfl), ?_⟩
  have eall : (ks.map kndV).all id = ks.all kndV := by rw [List.all_map]; rfl
  rw [eall]
  cases c3 : ks.all kndV with
  | false =>
    refine ⟨_, rfl, iteT ?_⟩
    exact bad s1 (by unfold kindsV; rw [c3, Bool.false_and, Bool.and_false])
  | true =>
    refine ⟨_, rfl, iteF ?_⟩
    obtain ⟨zs, rfl⟩ := knd_strs c3
    rw [List.length_map] at c1 c2
    refine ⟨_, rfl, kt, zs, rfl, SqT.of (s1 _ _ hkt), by omega, fun p H2 ws hp s2 h2 ha hm hle => ?_⟩
    have s12 := s1.trans s2
    have hkt2 := s12 _ _ hkt
    refine ⟨_, _, rfl, .inl ⟨_, SqL.of h2, rfl⟩, _, rfl, _, _, rfl, .inr ⟨_, SqT.of hkt2, rfl⟩, _, _, rfl, rfl, _, rfl, ?_⟩
    rw [List.length_map, List.length_map]
    by_cases c4 : zs.Nodup
    · have hlen : ws.length = zs.length := Nat.le_antisymm hle (nd_len c4 fun z hz => (hm z).mpr hz)
      rw [hlen, decide_eq_false (Int.lt_irrefl _)]
      refine iteF ?_
      rcases k with ⟨_, k⟩ | ⟨hb, _⟩
      · refine ⟨_, rfl, kt, _, rfl, .inr ⟨SqT.of hkt2, _, rfl, x, C, dx, fs, rfl, s12 _ _ hx, R.cl, R.nk, by omega, ?_⟩⟩
        exact k _ upd_same fun b o e n => by rw [upd_ne n]; exact s12 _ _ e
      · unfold kindsV at hb
        rw [List.length_map, decide_eq_true c1, decide_eq_true c2, c3, decide_eq_true (str_inj_nodup.mpr c4)] at hb
        cases hb
    · have hlt : ws.length < zs.length := by
        rcases Nat.lt_or_ge ws.length zs.length with q | q
        · exact q
        · exact absurd (nd_of_len ha.nodup hm q) c4
      rw [decide_eq_true (show (ws.length : Int) < (zs.length : Int) by omega)]
      refine iteT ?_
      exact bad s12 (by unfold kindsV; rw [decide_eq_false (fun q => c4 (str_inj_nodup.mp q)), Bool.and_false, Bool.and_false])
theorem ok_ruleX {B C f fIk fDt fX : Addr} {fdIk fdDt fdX : FuncData} {oc od kV doc pm an cdv ct osl} (g : Bi mg) (R : RC K C) (FIk : Def P w K mg base CX0 2 "is_kind" ["thing"] (spIsKind K) fIk fdIk) (FDt : Def P w K mg base CX0 1 "distinct" ["words"] (spDistinctT K) fDt fdDt) (XB : XDef P w K mg base "BadRule" B fX "what" ["self", "what"] fdX)
    (lk : K.lookup f = some ⟨oc, od, .func (PySem.W.fnOf "__init__" "Rule.__init__" (defArgs s_Rule_init) (defBody s_Rule_init) (defScope s_Rule_init) .none kV doc pm an cdv ct), osl⟩) (hcd : PySem.W.codeIn K cdv "Rule.__init__" = true) :
    FnR P w K mg base (L2.CX P w) 3 f (spRuleX B C) := by
  have G := StX.fn_star (P := P) (w := w) (mg := mg) (base := base) (CX := L2.CX P w) (k := 2) (ps := ["self"]) (pv := "kinds") (sp := spRuleBX B C) lk hcd sc_Rule_init StX.cxUp
    (fun us rest hl => match us, rest, hl with | [a], [], _ => rfl | [a], r :: rs, _ => rfl)
    (fun A outer s H vs Q E hr h => rule_bodyX (P := P) (w := w) (mg := mg) (base := base) (outer := outer) (s := s) g R FIk FDt XB hr h)
  refine G.imp fun vs H Q E h => ?_
  obtain ⟨x, dx, fs, ks, rfl, hx, hfs, hln, hV, k⟩ := h
  refine ⟨[.ref x], ks, rfl, rfl, Nat.le_trans hln (by decide), fun p hp => ?_⟩
  have s1 : Same H (upd H p (.tup ks)) := Same.new hp
  refine ⟨x, p, dx, fs, ks, rfl, s1 _ _ hx, hfs, upd_same, hln, fun v hv => (hV v hv).same s1, ?_⟩
  rcases k with ⟨hk, k⟩ | ⟨hk, k⟩
  · exact .inl ⟨hk, fun H' h1 h2 => k p H' hp (h2 _ _ upd_same (ne_of_none hx hp).symm) h1 fun b o e n => h2 b o (s1 _ _ e) n⟩
  · exact .inr ⟨hk, fun H' dd h1 h2 => k H' dd (fun b o e n => h1 b o (s1 _ _ e) n) h2⟩
end
end Cs

set_option Elab.async false
set_option linter.all false
set_option maxRecDepth 100000
set_option maxHeartbeats 4000000
set_option pp.maxSteps 600
/-! The four classes made of any values, or BadRule raised. -/
namespace Cs
open PySem L2 NdefX
theorem len2 {l : List V} (h : l.length = 2) : ∃ a b, l = [a, b] := by
  match l, h with
  | [a, b], _ => exact ⟨a, b, rfl⟩
def okBV : List V → Bool
  | [v] => bndV v
  | _ => false
def okLV : List V → Bool
  | [v, u] => bndV v && bndV u
  | _ => false
def leV : V → V → Bool
  | .int a, .int b => decide (a ≤ b)
  | _, _ => false
def okWV : List V → Bool
  | [v, u] => (bndV v && bndV u) && leV v u
  | _ => false
def FAM (ns : List V) (fs : List (Str × V)) (kt : Addr) : List (Str × V) := putF "most" (ns.getD 0 .non) (putF "least" (.int 0) (putF "kinds" (.ref kt) fs))
def FAL1 (ns : List V) (fs : List (Str × V)) (kt : Addr) : List (Str × V) := putF "least" (ns.getD 0 .non) (putF "kinds" (.ref kt) (putF "most" .non fs))
def FAL2 (ns : List V) (fs : List (Str × V)) (kt : Addr) : List (Str × V) := putF "least" (ns.getD 0 .non) (FAM [ns.getD 1 .non] (putF "most" .non fs) kt)
def FEx (ns : List V) (fs : List (Str × V)) (kt : Addr) : List (Str × V) := FAL2 [ns.getD 0 .non, ns.getD 0 .non] fs kt
/-- bad numbers, or good ones and the kinds' end -/
def EndN (B C : Addr) (H : Hp) (Q : VK) (E : XK) (x dx : Addr) (ok : Bool) (ks : List V) (F : Addr → List (Str × V)) : Prop := (ok = false ∧ BadR B H x "number" E) ∨ (ok = true ∧ EndK B C H Q E x dx ks F)
def spIX (bd n : Nat) (B C : Addr) (ok : List V → Bool) (F : List V → List (Str × V) → Addr → List (Str × V)) : Sp := fun vs H Q E => ∃ (x dx : Addr) (ns : List V) (fs : List (Str × V)) (ks : List V), vs = .ref x :: (ns ++ ks) ∧ ns.length = n ∧ H x = some (.ins C dx fs) ∧ fs.length < bd ∧ ks.length ≤ 90 ∧ (∀ v ∈ ns, VO H v) ∧ (∀ v ∈ ks, VO H v) ∧ EndN B C H Q E x dx (ok ns) ks (F ns fs)
/-- .. behind the binding: the named numbers, and a tuple of the rest -/
def spJX (bd n j : Nat) (B C : Addr) (ok : List V → Bool) (F : List V → List (Str × V) → Addr → List (Str × V)) : Sp := fun vs H Q E => ∃ (x kt dx : Addr) (n1 n2 : List V) (fs : List (Str × V)) (ks : List V), vs = (.ref x :: n1) ++ [.ref kt] ∧ n1.length = j ∧ (n1 ++ n2).length = n ∧ H x = some (.ins C dx fs) ∧ fs.length < bd ∧ H kt = some (.tup (n2 ++ ks)) ∧ ks.length ≤ 90 ∧ (∀ v ∈ n1 ++ n2, VO H v) ∧ (∀ v ∈ ks, VO H v) ∧ EndN B C H Q E x dx (ok (n1 ++ n2)) ks (F (n1 ++ n2) fs)
theorem endN_up {B C : Addr} {H H1 : Hp} {Q : VK} {E : XK} {x dx : Addr} {ok : Bool} {ks : List V} {F : Addr → List (Str × V)} (s : Same H H1) (h : EndN B C H Q E x dx ok ks F) : EndN B C H1 Q E x dx ok ks F := by
  rcases h with ⟨a, k⟩ | ⟨a, ⟨b, k⟩ | ⟨b, k⟩⟩
  · exact .inl ⟨a, fun H' dd h1 h2 => k H' dd (fun b o e n => h1 b o (s _ _ e) n) h2⟩
  · exact .inr ⟨a, .inl ⟨b, fun kt H' h1 h2 h3 h4 => k kt H' (s.free h1) h2 h3 fun b o e n => h4 b o (s _ _ e) n⟩⟩
  · exact .inr ⟨a, .inr ⟨b, fun H' dd h1 h2 => k H' dd (fun b o e n => h1 b o (s _ _ e) n) h2⟩⟩
theorem spIX_of {P : Program} {w : World} {K : PySem.W.Frag} {mg : Str → Option Value} {base : Heap} {k : Nat} {f B C : Addr} {ok : List V → Bool} {F : List V → List (Str × V) → Addr → List (Str × V)} {n j bd : Nat} (hj : j ≤ n) (hn : n ≤ 5)
    (G : FnR P w K mg base (L2.CX P w) k f (fun vs H Q E => ∃ ws rest, vs = ws ++ rest ∧ ws.length = j + 1 ∧ rest.length ≤ sizeLine ∧ ∀ p, H p = Option.none → spJX bd n j B C ok F (ws ++ [V.ref p]) (upd H p (.tup rest)) Q E)) : FnR P w K mg base (L2.CX P w) k f (spIX bd n B C ok F) := by
  refine G.imp fun vs H Q E h => ?_
  obtain ⟨x, dx, ns, fs, ks, rfl, hl, hx, hfs, hks, hv, hw, k⟩ := h
  have en : ns.take j ++ ns.drop j = ns := List.take_append_drop j ns
  refine ⟨.ref x :: ns.take j, ns.drop j ++ ks, ?_, ?_, ?_, fun p hp => ?_⟩
  · rw [List.cons_append, ← List.append_assoc, en]
  · rw [List.length_cons, List.length_take]
    omega
  · rw [List.length_append, List.length_drop]
    exact Nat.le_trans (show ns.length - j + ks.length ≤ 100 by omega) (by decide)
  · have s1 : Same H (upd H p (.tup (ns.drop j ++ ks))) := Same.new hp
    refine ⟨x, p, dx, ns.take j, ns.drop j, fs, ks, rfl, by rw [List.length_take]; omega, by rw [en]; exact hl, s1 _ _ hx, hfs, upd_same, hks, fun v m => ?_, fun v m => (hw v m).same s1, ?_⟩
    · rw [en] at m
      exact (hv v m).same s1
    · rw [en]
      exact endN_up s1 k
section
variable {P : Program} {w : World} {K : PySem.W.Frag} {mg : Str → Option Value} {base : Heap} {kV doc pm ct : Value} {an : Option Addr} {f fIb fR B C D cda cc fX : Addr} {fdIb fdX : FuncData}
theorem ok_atmostX (g : Bi mg) (R : RC K C) (FIb : Def P w K mg base CX0 2 "is_bound" ["thing"] (spIsBound K) fIb fdIb) (XB : XDef P w K mg base "BadRule" B fX "what" ["self", "what"] fdX) (Fs : FunS K "__init__" "AtMost.__init__" s_AtMost_init f cda cc D kV doc pm ct an) (SG : SupG P K mg) (SD : SupD P K cda D)
    (S : Sup K C D "__init__" fR) (FR : FnR P w K mg base (L2.CX P w) 3 fR (spRuleX B C)) : FnR P w K mg base (L2.CX P w) 4 f (spIX 890 1 B C okBV FAM) := by
  obtain ⟨GIb, mIb, _, bIb⟩ := id FIb
  refine spIX_of (j := 1) (by decide) (by decide) (fn_supS (ps := ["self", "most"]) (pv := "kinds") Fs sc_AtMost_init StX.cxUp (fun us rest hl => match us, rest, hl with | [a, b], [], _ => rfl | [a, b], r :: rs, _ => rfl) fun A outer s H vs Q E hr h => ?_)
  obtain ⟨x, kt, dx, n1, n2, fs, ks, rfl, hl1, hl, hx, hfs, hkt, hks, hv, hw, k⟩ := h
  have TS := supT_mk (CX := L2.CX P w) (w := w) (base := base) (N := ["self", "most", "kinds", "__class__"]) (A := A) (outer := outer) (s := s) (H := H) (E := E) (ar := "self") Fs SG SD rfl rfl rfl ⟨_, rfl, rfl⟩
  have hrIb : Room 2 _ := hr.mono (by decide)
  have hrX : Room 2 _ := hr.mono (by decide)
  have hrS : Room 3 _ := hr
  obtain ⟨m, rfl⟩ : ∃ m, n1 = [m] := List.length_eq_one_iff.mp hl1
  obtain rfl : n2 = [] := List.eq_nil_of_length_eq_zero (by rw [List.length_append, hl1] at hl; omega)
  have hkt : H kt = some (.tup ks) := hkt
  refine ⟨_, (pssa_cons (PSA.of (ps_if (pt_not (pt_val (pe_call GIb hrIb rfl mIb FIb.kp bIb .nil pass0 (pa_cons (pv 1) pa_nil)))) (pss_one (ps_raise rfl (takes_of rfl rfl rfl rfl) (pmk_oex XB.c XB.iC XB.tI XB.ok hrX XB.b .nil pass0 rfl XB.mg_ (pa_cons pe_str pa_nil)))) pss_nil))
      (pssa_cons (psa_expr (pea_sup1 (i := 0) TS rfl hrS (passes_call (takes_of rfl rfl rfl rfl) fun _ _ _ _ h => h) (pv 2)))
      (pssa_cons (PSA.of (ps_fld (pv 0) pe_int rfl))
      (pssa_one (PSA.of (ps_fld (pv 0) (pv 1) rfl)))))), ?_⟩
  refine ⟨_, rfl, nil_it <| bnd_ask (hv m List.mem_cons_self) ?_⟩
  rcases k with ⟨hb, k⟩ | ⟨hb, k⟩
  · rw [show bndV m = false from hb]
    exact ⟨_, rfl, iteT (xmk fun dd hdd => k H dd (fun b o e _ => e) hdd)⟩
  rw [show bndV m = true from hb]
  refine ⟨_, rfl, iteF ?_⟩
  refine ⟨x, spRuleX B C, ⟨C, dx, fs, fR, rfl, hx, S, FR⟩, _, rfl, kt, _, rfl, .inl (SqT.of hkt), ?_⟩
  refine ⟨x, dx, fs, ks, rfl, hx, by omega, by omega, hw, ?_⟩
  rcases k with ⟨hk, k⟩ | ⟨hk, k⟩
  · refine .inl ⟨hk, fun kt2 H1 hk1 hk2 h1 kp1 => ?_⟩
    have nxk : x ≠ kt2 := ne_of_none hx hk1
    have h1 : H1 x = some (.ins C dx (putF "kinds" (.ref kt2) fs)) := h1
    have l1 := putF_len "kinds" (.ref kt2) fs
    refine ⟨_, rfl, x, C, dx, _, rfl, h1, R.cl, R.nl, by omega, ?_⟩
    have l2 := putF_len "least" (.int 0) (putF "kinds" (.ref kt2) fs)
    refine ⟨_, rfl, _, rfl, x, C, dx, _, rfl, upd_same, R.cl, R.nm, by omega, ?_⟩
    refine k kt2 _ hk1 (by rw [upd_ne nxk.symm, upd_ne nxk.symm]; exact hk2) upd_same fun b o e n => ?_
    rw [upd_ne n, upd_ne n]
    exact kp1 b o e n
  · exact .inr ⟨hk, k⟩
theorem ok_atleast1X (g : Bi mg) (R : RC K C) (FIb : Def P w K mg base CX0 2 "is_bound" ["thing"] (spIsBound K) fIb fdIb) (XB : XDef P w K mg base "BadRule" B fX "what" ["self", "what"] fdX) (Fs : FunS K "__init__" "AtLeast.__init__" s_AtLeast_init f cda cc D kV doc pm ct an) (SG : SupG P K mg) (SD : SupD P K cda D)
    (S : Sup K C D "__init__" fR) (FR : FnR P w K mg base (L2.CX P w) 3 fR (spRuleX B C)) : FnR P w K mg base (L2.CX P w) 4 f (spIX 890 1 B C okBV FAL1) := by
  obtain ⟨GIb, mIb, _, bIb⟩ := id FIb
  refine spIX_of (j := 1) (by decide) (by decide) (fn_supS (ps := ["self", "least"]) (pv := "rest") Fs sc_AtLeast_init StX.cxUp (fun us rest hl => match us, rest, hl with | [a, b], [], _ => rfl | [a, b], r :: rs, _ => rfl) fun A outer s H vs Q E hr h => ?_)
  obtain ⟨x, kt, dx, n1, n2, fs, ks, rfl, hl1, hl, hx, hfs, hkt, hks, hv, hw, k⟩ := h
  have TS := supT_mk (CX := L2.CX P w) (w := w) (base := base) (N := ["self", "least", "rest", "__class__"]) (A := A) (outer := outer) (s := s) (H := H) (E := E) (ar := "self") Fs SG SD rfl rfl rfl ⟨_, rfl, rfl⟩
  have hrIb : Room 2 _ := hr.mono (by decide)
  have hrX : Room 2 _ := hr.mono (by decide)
  have hrS : Room 3 _ := hr
  obtain ⟨m, rfl⟩ : ∃ m, n1 = [m] := List.length_eq_one_iff.mp hl1
  obtain rfl : n2 = [] := List.eq_nil_of_length_eq_zero (by rw [List.length_append, hl1] at hl; omega)
  have hkt : H kt = some (.tup ks) := hkt
  refine ⟨_, (pssa_cons (PSA.of (ps_if (pt_not (pt_val (pe_call GIb hrIb rfl mIb FIb.kp bIb .nil pass0 (pa_cons (pv 1) pa_nil)))) (pss_one (ps_raise rfl (takes_of rfl rfl rfl rfl) (pmk_oex XB.c XB.iC XB.tI XB.ok hrX XB.b .nil pass0 rfl XB.mg_ (pa_cons pe_str pa_nil)))) pss_nil))
      (pssa_cons (PSA.of (ps_fld (pv 0) pe_non rfl))
      (pssa_cons (psa_expr (pea_sup1 (i := 0) TS rfl hrS (passes_call (takes_of rfl rfl rfl rfl) fun _ _ _ _ h => h) (pv 2)))
      (pssa_one (PSA.of (ps_fld (pv 0) (pv 1) rfl)))))), ?_⟩
  refine ⟨_, rfl, nil_it <| bnd_ask (hv m List.mem_cons_self) ?_⟩
  rcases k with ⟨hb, k⟩ | ⟨hb, k⟩
  · rw [show bndV m = false from hb]
    exact ⟨_, rfl, iteT (xmk fun dd hdd => k H dd (fun b o e _ => e) hdd)⟩
  rw [show bndV m = true from hb]
  refine ⟨_, rfl, iteF ?_⟩
  have nxt : x ≠ kt := ne_of hx hkt (by intro z; cases z)
  refine ⟨_, rfl, x, C, dx, fs, rfl, hx, R.cl, R.nm, by omega, ?_⟩
  have l0 := putF_len "most" .non fs
  have up0 : ∀ b o, H b = some o → b ≠ x → (upd H x (.ins C dx (putF "most" .non fs))) b = some o := fun b o e n => by rw [upd_ne n]; exact e
  refine ⟨x, spRuleX B C, ⟨C, dx, _, fR, rfl, upd_same, S, FR⟩, _, rfl, kt, _, rfl, .inl (SqT.of (up0 _ _ hkt nxt.symm)), ?_⟩
  refine ⟨x, dx, _, ks, rfl, upd_same, by omega, by omega, fun v m => (hw v m).up hx up0, ?_⟩
  rcases k with ⟨hk, k⟩ | ⟨hk, k⟩
  · refine .inl ⟨hk, fun kt2 H1 hk1 hk2 h1 kp1 => ?_⟩
    have nxk : x ≠ kt2 := ne_of_none upd_same hk1
    have hk0 : H kt2 = none := by rw [upd_ne nxk.symm] at hk1; exact hk1
    have h1 : H1 x = some (.ins C dx (putF "kinds" (.ref kt2) (putF "most" .non fs))) := h1
    have l1 := putF_len "kinds" (.ref kt2) (putF "most" .non fs)
    refine ⟨_, rfl, _, rfl, x, C, dx, _, rfl, h1, R.cl, R.nl, by omega, ?_⟩
    refine k kt2 _ hk0 (by rw [upd_ne nxk.symm]; exact hk2) upd_same fun b o e n => ?_
    rw [upd_ne n]
    exact kp1 b o (up0 b o e n) n
  · exact .inr ⟨hk, fun H' dd h1 h2 => k H' dd (fun b o e n => h1 b o (up0 b o e n) n) h2⟩
theorem ok_atleast2X (g : Bi mg) (R : RC K C) (FIb : Def P w K mg base CX0 2 "is_bound" ["thing"] (spIsBound K) fIb fdIb) (XB : XDef P w K mg base "BadRule" B fX "what" ["self", "what"] fdX) (Fs : FunS K "__init__" "AtLeast.__init__" s_AtLeast_init f cda cc D kV doc pm ct an) (SG : SupG P K mg) (SD : SupD P K cda D)
    (S : Sup K C D "__init__" fR) (FR : FnR P w K mg base (L2.CX P w) 4 fR (spIX 890 1 B C okBV FAM)) : FnR P w K mg base (L2.CX P w) 5 f (spIX 880 2 B C okLV FAL2) := by
  obtain ⟨GIb, mIb, _, bIb⟩ := id FIb
  refine spIX_of (j := 1) (by decide) (by decide) (fn_supS (ps := ["self", "least"]) (pv := "rest") Fs sc_AtLeast_init StX.cxUp (fun us rest hl => match us, rest, hl with | [a, b], [], _ => rfl | [a, b], r :: rs, _ => rfl) fun A outer s H vs Q E hr h => ?_)
  obtain ⟨x, kt, dx, n1, n2, fs, ks, rfl, hl1, hl, hx, hfs, hkt, hks, hv, hw, k⟩ := h
  have TS := supT_mk (CX := L2.CX P w) (w := w) (base := base) (N := ["self", "least", "rest", "__class__"]) (A := A) (outer := outer) (s := s) (H := H) (E := E) (ar := "self") Fs SG SD rfl rfl rfl ⟨_, rfl, rfl⟩
  have hrIb : Room 2 _ := hr.mono (by decide)
  have hrX : Room 2 _ := hr.mono (by decide)
  have hrS : Room 4 _ := hr
  obtain ⟨l, rfl⟩ : ∃ m, n1 = [m] := List.length_eq_one_iff.mp hl1
  obtain ⟨m, rfl⟩ : ∃ m, n2 = [m] := List.length_eq_one_iff.mp (by rw [List.length_append, hl1] at hl; omega)
  have hkt : H kt = some (.tup (m :: ks)) := hkt
  refine ⟨_, (pssa_cons (PSA.of (ps_if (pt_not (pt_val (pe_call GIb hrIb rfl mIb FIb.kp bIb .nil pass0 (pa_cons (pv 1) pa_nil)))) (pss_one (ps_raise rfl (takes_of rfl rfl rfl rfl) (pmk_oex XB.c XB.iC XB.tI XB.ok hrX XB.b .nil pass0 rfl XB.mg_ (pa_cons pe_str pa_nil)))) pss_nil))
      (pssa_cons (PSA.of (ps_fld (pv 0) pe_non rfl))
      (pssa_cons (psa_expr (pea_sup1 (i := 0) TS rfl hrS (passes_call (takes_of rfl rfl rfl rfl) fun _ _ _ _ h => h) (pv 2)))
      (pssa_one (PSA.of (ps_fld (pv 0) (pv 1) rfl)))))), ?_⟩
  refine ⟨_, rfl, nil_it <| bnd_ask (hv l List.mem_cons_self) ?_⟩
  have ek : okLV ([l] ++ [m]) = (bndV l && bndV m) := rfl
  rw [ek] at k
  cases hb : bndV l with
  | false =>
    rw [hb, Bool.false_and] at k
    rcases k with ⟨_, k⟩ | ⟨h, _⟩
    · exact ⟨_, rfl, iteT (xmk fun dd hdd => k H dd (fun b o e _ => e) hdd)⟩
    · cases h
  | true =>
  rw [hb, Bool.true_and] at k
  refine ⟨_, rfl, iteF ?_⟩
  have nxt : x ≠ kt := ne_of hx hkt (by intro z; cases z)
  refine ⟨_, rfl, x, C, dx, fs, rfl, hx, R.cl, R.nm, by omega, ?_⟩
  have l0 := putF_len "most" .non fs
  have up0 : ∀ b o, H b = some o → b ≠ x → (upd H x (.ins C dx (putF "most" .non fs))) b = some o := fun b o e n => by rw [upd_ne n]; exact e
  refine ⟨x, spIX 890 1 B C okBV FAM, ⟨C, dx, _, fR, rfl, upd_same, S, FR⟩, _, rfl, kt, _, rfl, .inl (SqT.of (up0 _ _ hkt nxt.symm)), ?_⟩
  refine ⟨x, dx, [m], _, ks, rfl, rfl, upd_same, by omega, hks, fun v hm => (hv v (List.mem_append_right _ hm)).up hx up0, fun v m => (hw v m).up hx up0, ?_⟩
  rcases k with ⟨hk, k⟩ | ⟨hk, ⟨hk2, k⟩ | ⟨hk2, k⟩⟩
  · exact .inl ⟨hk, fun H' dd h1 h2 => k H' dd (fun b o e n => h1 b o (up0 b o e n) n) h2⟩
  · refine .inr ⟨hk, .inl ⟨hk2, fun kt2 H1 hk1 hk2 h1 kp1 => ?_⟩⟩
    have nxk : x ≠ kt2 := ne_of_none upd_same hk1
    have hk0 : H kt2 = none := by rw [upd_ne nxk.symm] at hk1; exact hk1
    have l1 := putF_len "kinds" (.ref kt2) (putF "most" .non fs)
    have l2 := putF_len "least" (.int 0) (putF "kinds" (.ref kt2) (putF "most" .non fs))
    have l3 := putF_len "most" m (putF "least" (.int 0) (putF "kinds" (.ref kt2) (putF "most" .non fs)))
    refine ⟨_, rfl, _, rfl, x, C, dx, _, rfl, h1, R.cl, R.nl, Nat.lt_of_le_of_lt l3 (by omega), ?_⟩
    refine k kt2 _ hk0 (by rw [upd_ne nxk.symm]; exact hk2) upd_same fun b o e n => ?_
    rw [upd_ne n]
    exact kp1 b o (up0 b o e n) n
  · exact .inr ⟨hk, .inr ⟨hk2, fun H' dd h1 h2 => k H' dd (fun b o e n => h1 b o (up0 b o e n) n) h2⟩⟩
theorem ok_betweenX (g : Bi mg) (R : RC K C) (FIb : Def P w K mg base CX0 2 "is_bound" ["thing"] (spIsBound K) fIb fdIb) (XB : XDef P w K mg base "BadRule" B fX "what" ["self", "what"] fdX) (Fs : FunS K "__init__" "Between.__init__" s_Between_init f cda cc D kV doc pm ct an) (SG : SupG P K mg) (SD : SupD P K cda D)
    (S : Sup K C D "__init__" fR) (FR : FnR P w K mg base (L2.CX P w) 5 fR (spIX 880 2 B C okLV FAL2)) : FnR P w K mg base (L2.CX P w) 6 f (spIX 880 2 B C okWV FAL2) := by
  obtain ⟨GIb, mIb, _, bIb⟩ := id FIb
  refine spIX_of (j := 2) (by decide) (by decide) (fn_supS (ps := ["self", "least", "most"]) (pv := "kinds") Fs sc_Between_init StX.cxUp (fun us rest hl => match us, rest, hl with | [a, b, c], [], _ => rfl | [a, b, c], r :: rs, _ => rfl) fun A outer s H vs Q E hr h => ?_)
  obtain ⟨x, kt, dx, n1, n2, fs, ks, rfl, hl1, hl, hx, hfs, hkt, hks, hv, hw, k⟩ := h
  have TS := supT_mk (CX := L2.CX P w) (w := w) (base := base) (N := ["self", "least", "most", "kinds", "__class__"]) (A := A) (outer := outer) (s := s) (H := H) (E := E) (ar := "self") Fs SG SD rfl rfl rfl ⟨_, rfl, rfl⟩
  have hrIb : Room 2 _ := hr.mono (by decide)
  have hrX : Room 2 _ := hr.mono (by decide)
  have hrS : Room 5 _ := hr
  obtain ⟨l, m, rfl⟩ : ∃ l m, n1 = [l, m] := len2 hl1
  obtain rfl : n2 = [] := List.eq_nil_of_length_eq_zero (by rw [List.length_append, hl1] at hl; omega)
  have hkt : H kt = some (.tup ks) := hkt
  have vl := hv l List.mem_cons_self
  have vm := hv m (List.mem_cons_of_mem _ List.mem_cons_self)
  refine ⟨_, (pssa_cons (PSA.of (ps_if (PW.pt (pw_or (pt_not (pt_val (pe_call GIb hrIb rfl mIb FIb.kp bIb .nil pass0 (pa_cons (pv 1) pa_nil)))) (pw_or (pt_not (pt_val (pe_call GIb hrIb rfl mIb FIb.kp bIb .nil pass0 (pa_cons (pv 2) pa_nil)))) (pw_or1 (pt_cmpR op_gt (pv 1) (pv 2) (nomark _)))))) (pss_one (ps_raise rfl (takes_of rfl rfl rfl rfl) (pmk_oex XB.c XB.iC XB.tI XB.ok hrX XB.b .nil pass0 rfl XB.mg_ (pa_cons pe_str pa_nil)))) pss_nil))
      (pssa_one (psa_expr (pea_sup2 (i := 0) TS rfl hrS (passes_call (takes_of rfl rfl rfl rfl) fun _ _ _ _ h => h) (pa_cons (pv 1) (pa_cons (pv 2) (StX.pa_star (pv 3) pa_nil))))))), ?_⟩
  have ek : okWV ([l, m] ++ []) = ((bndV l && bndV m) && leV l m) := rfl
  rw [ek] at k
  refine ⟨_, rfl, nil_it <| bnd_ask vl ?_⟩
  cases hb : bndV l with
  | false =>
    rw [hb, Bool.false_and, Bool.false_and] at k
    rcases k with ⟨_, k⟩ | ⟨h, _⟩
    · exact ⟨_, rfl, iteT (xmk fun dd hdd => k H dd (fun b o e _ => e) hdd)⟩
    · cases h
  | true =>
  rw [hb, Bool.true_and] at k
  refine ⟨_, rfl, iteF ⟨_, rfl, nil_it <| bnd_ask vm ?_⟩⟩
  cases hb2 : bndV m with
  | false =>
    rw [hb2, Bool.false_and] at k
    rcases k with ⟨_, k⟩ | ⟨h, _⟩
    · exact ⟨_, rfl, iteT (xmk fun dd hdd => k H dd (fun b o e _ => e) hdd)⟩
    · cases h
  | true =>
  rw [hb2, Bool.true_and] at k
  obtain ⟨l, rfl, hl⟩ := bndV_int hb
  obtain ⟨m, rfl, hm⟩ := bndV_int hb2
  refine ⟨_, rfl, iteF ⟨_, rfl, _, rfl, _, _, rfl, rfl, _, rfl, ?_⟩⟩
  have ek : leV (.int l) (.int m) = decide (l ≤ m) := rfl
  rw [ek] at k
  by_cases c : m < l
  · rw [decide_eq_true c]
    rw [decide_eq_false (show ¬ l ≤ m by omega)] at k
    rcases k with ⟨_, k⟩ | ⟨h, _⟩
    · exact iteT (xmk fun dd hdd => k H dd (fun b o e _ => e) hdd)
    · cases h
  rw [decide_eq_false c]
  rw [decide_eq_true (show l ≤ m by omega)] at k
  refine iteF ?_
  refine ⟨x, spIX 880 2 B C okLV FAL2, ⟨C, dx, fs, fR, rfl, hx, S, FR⟩, _, rfl, _, rfl, _, rfl, kt, _, rfl, .inl (SqT.of hkt), ?_⟩
  refine ⟨x, dx, [.int l, .int m], fs, ks, ?_, rfl, hx, hfs, hks, hv, hw, ?_⟩
  · simp
  · rcases k with ⟨h, _⟩ | ⟨_, k⟩
    · cases h
    · exact .inr ⟨by show (bndV (.int l) && bndV (.int m)) = true; rw [hb, hb2]; rfl, k⟩
theorem ok_exactlyX (g : Bi mg) (R : RC K C) (Fs : FunS K "__init__" "Exactly.__init__" s_Exactly_init f cda cc D kV doc pm ct an) (SG : SupG P K mg) (SD : SupD P K cda D)
    (S : Sup K C D "__init__" fR) (FR : FnR P w K mg base (L2.CX P w) 6 fR (spIX 880 2 B C okWV FAL2)) : FnR P w K mg base (L2.CX P w) 7 f (spIX 880 1 B C (fun ns => okWV [ns.getD 0 .non, ns.getD 0 .non]) FEx) := by
  refine spIX_of (j := 1) (by decide) (by decide) (fn_supS (ps := ["self", "number"]) (pv := "kinds") Fs sc_Exactly_init StX.cxUp (fun us rest hl => match us, rest, hl with | [a, b], [], _ => rfl | [a, b], r :: rs, _ => rfl) fun A outer s H vs Q E hr h => ?_)
  obtain ⟨x, kt, dx, n1, n2, fs, ks, rfl, hl1, hl, hx, hfs, hkt, hks, hv, hw, k⟩ := h
  have TS := supT_mk (CX := L2.CX P w) (w := w) (base := base) (N := ["self", "number", "kinds", "__class__"]) (A := A) (outer := outer) (s := s) (H := H) (E := E) (ar := "self") Fs SG SD rfl rfl rfl ⟨_, rfl, rfl⟩
  have hrS : Room 6 _ := hr
  obtain ⟨m, rfl⟩ : ∃ m, n1 = [m] := List.length_eq_one_iff.mp hl1
  obtain rfl : n2 = [] := List.eq_nil_of_length_eq_zero (by rw [List.length_append, hl1] at hl; omega)
  have hkt : H kt = some (.tup ks) := hkt
  have vm := hv m List.mem_cons_self
  refine ⟨_, (pssa_one (psa_expr (pea_sup2 (i := 0) TS rfl hrS (passes_call (takes_of rfl rfl rfl rfl) fun _ _ _ _ h => h) (pa_cons (pv 1) (pa_cons (pv 1) (StX.pa_star (pv 2) pa_nil)))))), ?_⟩
  refine ⟨x, spIX 880 2 B C okWV FAL2, ⟨C, dx, fs, fR, rfl, hx, S, FR⟩, _, rfl, _, rfl, _, rfl, kt, _, rfl, .inl (SqT.of hkt), ?_⟩
  refine ⟨x, dx, [m, m], fs, ks, ?_, rfl, hx, hfs, hks, fun v h => ?_, hw, k⟩
  · simp
  · rw [show v = m by simpa using h]
    exact vm
end
end Cs

set_option Elab.async false
set_option linter.all false
set_option maxRecDepth 100000
set_option maxHeartbeats 8000000
set_option pp.maxSteps 600
/-! The law of rules refused: its helpers. -/
namespace Cs
open PySem L2
/-- BadRule is raised, and all else stays -/
def Bad0 (B : Addr) (H : Hp) (z : Str) (E : XK) : Prop := ∀ (H' : Hp) (dd : Addr), Same H H' → H' dd = none → E (.ref B) (some dd) (upd H' dd (.xd [(("what" : Str), .str z)]))
/-- the three ends of a rule's making -/
def Ends3 (B : Addr) (H : Hp) (Q : VK) (E : XK) (ok : Bool) (ks : List V) : Prop := (ok = false → Bad0 B H "number" E) ∧ (ok = true → kindsV ks = false → Bad0 B H "kinds" E) ∧ (ok = true → kindsV ks = true → ∀ v H', Same H H' → Q v H')
theorem mk_X {bd n : Nat} {B C : Addr} {ok : List V → Bool} {F : List V → List (Str × V) → Addr → List (Str × V)} {ns ks : List V} {H : Hp} {Q : VK} {E : XK} (hb : 0 < bd) (hn : ns.length = n) (hk : ks.length ≤ 90) (hv : ∀ v ∈ ns, VO H v) (hw : ∀ v ∈ ks, VO H v) (e : Ends3 B H Q E (ok ns) ks) :
    ∀ x dx, H x = none → H dx = none → dx ≠ x → spIX bd n B C ok F (V.ref x :: (ns ++ ks)) (upd (upd H dx (.own x)) x (.ins C dx [])) (fun v H2 => v = .non ∧ Q (.ref x) H2) E := by
  intro x dx hx hdx ne
  have s0 : Same H (upd (upd H dx (.own x)) x (.ins C dx [])) := fun b o e => by rw [upd_ne (ne_of_none e hx), upd_ne (ne_of_none e hdx)]; exact e
  have back : ∀ {H' : Hp}, (∀ b o, (upd (upd H dx (.own x)) x (.ins C dx [])) b = some o → b ≠ x → H' b = some o) → Same H H' := fun h b o e => h b o (s0 b o e) (ne_of_none e hx)
  obtain ⟨e1, e2, e3⟩ := e
  refine ⟨x, dx, ns, [], ks, rfl, hn, upd_same, hb, hk, fun v m => (hv v m).same s0, fun v m => (hw v m).same s0, ?_⟩
  cases h1 : ok ns with
  | false => exact .inl ⟨rfl, fun H' dd h2 h3 => e1 h1 H' dd (back h2) h3⟩
  | true =>
    refine .inr ⟨rfl, ?_⟩
    cases h2 : kindsV ks with
    | false => exact .inr ⟨h2, fun H' dd h3 h4 => e2 h1 h2 H' dd (back h3) h4⟩
    | true => exact .inl ⟨h2, fun kt H' h3 h4 h5 h6 => ⟨rfl, e3 h1 h2 _ H' (back h6)⟩⟩
/-- how the four are made, or not -/
structure RMx (P : Program) (w : World) (K : PySem.W.Frag) (mg : Str → Option Value) (base : Heap) (a : RAd) (B : Addr) : Prop where
  wo : RWo K mg a
  al : ∃ f, Mk K a.al f ∧ FnR P w K mg base (L2.CX P w) 7 f (spIX 880 1 B a.al okBV FAL1)
  am : ∃ f, Mk K a.am f ∧ FnR P w K mg base (L2.CX P w) 7 f (spIX 880 1 B a.am okBV FAM)
  bt : ∃ f, Mk K a.bt f ∧ FnR P w K mg base (L2.CX P w) 7 f (spIX 880 2 B a.bt okWV FAL2)
  ex : ∃ f, Mk K a.ex f ∧ FnR P w K mg base (L2.CX P w) 7 f (spIX 880 1 B a.ex (fun ns => okWV [ns.getD 0 .non, ns.getD 0 .non]) FEx)
theorem FnR.lessX {P : Program} {w : World} {K : PySem.W.Frag} {mg : Str → Option Value} {base : Heap} {k n bd bd' : Nat} {f B C : Addr} {ok : List V → Bool} {F : List V → List (Str × V) → Addr → List (Str × V)} (G : FnR P w K mg base (L2.CX P w) k f (spIX bd n B C ok F)) (h : bd' ≤ bd) : FnR P w K mg base (L2.CX P w) k f (spIX bd' n B C ok F) := by
  refine G.imp fun vs H Q E q => ?_
  obtain ⟨x, dx, ns, fs, ks, rfl, hl, hx, hfs, r⟩ := q
  exact ⟨x, dx, ns, fs, ks, rfl, hl, hx, Nat.lt_of_lt_of_le hfs h, r⟩
def numOk (m : Int) (lo hi : V) : Bool := if m = 0 then bndV lo else if m = 1 then bndV hi else if m = 2 then okWV [lo, hi] else okWV [lo, lo]
def spCall (B : Addr) : Sp := fun vs H Q E => ∃ (m : Int) (lo hi : V) (kl : Addr) (ks : List V), vs = [.int m, lo, hi, .ref kl] ∧ VO H lo ∧ VO H hi ∧ H kl = some (.lst ks) ∧ (ks.length = 0 ∨ ks.length = 2 ∨ ks.length = 4) ∧ (∀ v ∈ ks, VO H v) ∧ Ends3 B H Q E (numOk m lo hi) ks
def whatOf (m : Int) (lo hi : V) (ks : List V) : Str := if numOk m lo hi = false then "number" else if kindsV ks = false then "kinds" else ""
def spWhat : Sp := fun vs H Q _ => ∃ (m : Int) (lo hi : V) (kl : Addr) (ks : List V), vs = [.int m, lo, hi, .ref kl] ∧ VO H lo ∧ VO H hi ∧ H kl = some (.lst ks) ∧ (ks.length = 0 ∨ ks.length = 2 ∨ ks.length = 4) ∧ (∀ v ∈ ks, VO H v) ∧ ∀ H', Same H H' → Q (.str (whatOf m lo hi ks)) H'
def spWrongN : Sp := fun vs H Q _ => ∃ c : Int, vs = [.int c] ∧ 0 ≤ c ∧ c < 8 ∧ ∀ v H', Same H H' → VO H' v → bndV v = false → Q v H'
def spWrongK (K : PySem.W.Frag) : Sp := fun vs H Q _ => ∃ (c : Int) (kl : Addr) (ks : List Str), vs = [.int c, .ref kl] ∧ 0 ≤ c ∧ c < 11 ∧ H kl = some (.lst (ks.map V.str)) ∧ ks.length = 4 ∧ (∀ z ∈ ks, Kind z) ∧ ∀ (q : Addr) (H' : Hp) (vs : List V), Same H H' → H' q = some (.lst vs) → (vs.length = 0 ∨ vs.length = 2 ∨ vs.length = 4) → (∀ v ∈ vs, VO H' v) → kindsV vs = false → Q (.ref q) H'
theorem okW_neg {v u : V} (h : bndV v = false ∨ bndV u = false) : okWV [v, u] = false := by
  show ((bndV v && bndV u) && leV v u) = false
  rcases h with h | h <;> rw [h] <;> simp
section
variable {P : Program} {w : World} {K : PySem.W.Frag} {mg : Str → Option Value} {base : Heap}
theorem ok_call {f B : Addr} {fd : FuncData} {a : RAd} (F : Fun K "_law_call" "_law_call" s_l_call f fd) (g : Bi mg) (W : RMx P w K mg base a B) : FnOk P w K mg base (L2.CX P w) 9 f fd ["_law_mode", "_law_low", "_law_high", "_law_kinds_here"] (spCall B) := by
  obtain ⟨fL, mkL, iL⟩ := W.al
  obtain ⟨fM, mkM, iM⟩ := W.am
  obtain ⟨fB, mkB, iB⟩ := W.bt
  obtain ⟨fX, mkX, iX⟩ := W.ex
  have Wo := W.wo
  refine F.okX sc_l_call (fun vs H Q E h => ?_) (fun cdv A outer s H vs Q E hr h => ?_)
  · obtain ⟨_, _, _, _, _, rfl, _⟩ := h
    rfl
  · obtain ⟨m, lo, hi, kl, ks, rfl, vlo, vhi, hk, hl, hV, k⟩ := h
    have hrMk : Room 8 _ := hr
    have one : ∀ {v : V}, VO H v → ∀ x ∈ [v], VO H x := fun h x hx => by rw [List.mem_singleton.mp hx]; exact h
    have two : ∀ x ∈ [lo, hi], VO H x := fun x hx => by
      rcases List.mem_cons.mp hx with e | e
      · rw [e]; exact vlo
      · rw [List.mem_singleton.mp e]; exact vhi
    refine ⟨_, (pss_cons (ps_if (pt_cmpR op_eq (pe_callB call_len (by rfl) g.len PySem.boot_len (pa_cons (pv 3) pa_nil)) pe_int (nomark _)) (pss_cons (ps_if (pt_cmpR op_eq (pv 0) pe_int (nomark _)) (pss_one (ps_ret (StX.pe_makeR mkL iL hrMk rfl Wo.mal (passes_call (takes_of rfl rfl rfl rfl) fun _ _ _ _ h => h) (pa_cons (pv 1) pa_nil)))) pss_nil)
      (pss_cons (ps_if (pt_cmpR op_eq (pv 0) pe_int (nomark _)) (pss_one (ps_ret (StX.pe_makeR mkM iM hrMk rfl Wo.mam (passes_call (takes_of rfl rfl rfl rfl) fun _ _ _ _ h => h) (pa_cons (pv 2) pa_nil)))) pss_nil)
      (pss_one (ps_ret (pe_ifExp (pt_cmpR op_eq (pv 0) pe_int (nomark _)) (StX.pe_makeR mkB iB hrMk rfl Wo.mbt (passes_call (takes_of rfl rfl rfl rfl) fun _ _ _ _ h => h) (pa_cons (pv 1) (pa_cons (pv 2) pa_nil))) (StX.pe_makeR mkX iX hrMk rfl Wo.mex (passes_call (takes_of rfl rfl rfl rfl) fun _ _ _ _ h => h) (pa_cons (pv 1) pa_nil))))))) pss_nil)
      (pss_cons (ps_if (pt_cmpR op_eq (pe_callB call_len (by rfl) g.len PySem.boot_len (pa_cons (pv 3) pa_nil)) pe_int (nomark _)) (pss_cons (ps_asg (pv 3) (pg_unl rfl (pgs_cons (pg_name (i := 4) sc_l_call.nd rfl (Or.inl rfl)) (pgs_cons (pg_name (i := 5) sc_l_call.nd rfl (Or.inl rfl)) (pgs_cons (pg_name (i := 6) sc_l_call.nd rfl (Or.inl rfl)) (pgs_cons (pg_name (i := 7) sc_l_call.nd rfl (Or.inl rfl)) pgs_nil))))))
      (pss_cons (ps_if (pt_cmpR op_eq (pv 0) pe_int (nomark _)) (pss_one (ps_ret (StX.pe_makeR mkL iL hrMk rfl Wo.mal (passes_call (takes_of rfl rfl rfl rfl) fun _ _ _ _ h => h) (pa_cons (pv 1) (pa_cons (pv 4) (pa_cons (pv 5) (pa_cons (pv 6) (pa_cons (pv 7) pa_nil)))))))) pss_nil)
      (pss_cons (ps_if (pt_cmpR op_eq (pv 0) pe_int (nomark _)) (pss_one (ps_ret (StX.pe_makeR mkM iM hrMk rfl Wo.mam (passes_call (takes_of rfl rfl rfl rfl) fun _ _ _ _ h => h) (pa_cons (pv 2) (pa_cons (pv 4) (pa_cons (pv 5) (pa_cons (pv 6) (pa_cons (pv 7) pa_nil)))))))) pss_nil)
      (pss_cons (ps_if (pt_cmpR op_eq (pv 0) pe_int (nomark _)) (pss_one (ps_ret (StX.pe_makeR mkB iB hrMk rfl Wo.mbt (passes_call (takes_of rfl rfl rfl rfl) fun _ _ _ _ h => h) (pa_cons (pv 1) (pa_cons (pv 2) (pa_cons (pv 4) (pa_cons (pv 5) (pa_cons (pv 6) (pa_cons (pv 7) pa_nil))))))))) pss_nil)
      (pss_one (ps_ret (StX.pe_makeR mkX iX hrMk rfl Wo.mex (passes_call (takes_of rfl rfl rfl rfl) fun _ _ _ _ h => h) (pa_cons (pv 1) (pa_cons (pv 4) (pa_cons (pv 5) (pa_cons (pv 6) (pa_cons (pv 7) pa_nil)))))))))))) pss_nil)
      (pss_cons (ps_asg (pv 3) (pg_unl rfl (pgs_cons (pg_name (i := 4) sc_l_call.nd rfl (Or.inl rfl)) (pgs_cons (pg_name (i := 5) sc_l_call.nd rfl (Or.inl rfl)) pgs_nil))))
      (pss_cons (ps_if (pt_cmpR op_eq (pv 0) pe_int (nomark _)) (pss_one (ps_ret (StX.pe_makeR mkL iL hrMk rfl Wo.mal (passes_call (takes_of rfl rfl rfl rfl) fun _ _ _ _ h => h) (pa_cons (pv 1) (pa_cons (pv 4) (pa_cons (pv 5) pa_nil)))))) pss_nil)
      (pss_cons (ps_if (pt_cmpR op_eq (pv 0) pe_int (nomark _)) (pss_one (ps_ret (StX.pe_makeR mkM iM hrMk rfl Wo.mam (passes_call (takes_of rfl rfl rfl rfl) fun _ _ _ _ h => h) (pa_cons (pv 2) (pa_cons (pv 4) (pa_cons (pv 5) pa_nil)))))) pss_nil)
      (pss_one (ps_ret (pe_ifExp (pt_cmpR op_eq (pv 0) pe_int (nomark _)) (StX.pe_makeR mkB iB hrMk rfl Wo.mbt (passes_call (takes_of rfl rfl rfl rfl) fun _ _ _ _ h => h) (pa_cons (pv 1) (pa_cons (pv 2) (pa_cons (pv 4) (pa_cons (pv 5) pa_nil))))) (StX.pe_makeR mkX iX hrMk rfl Wo.mex (passes_call (takes_of rfl rfl rfl rfl) fun _ _ _ _ h => h) (pa_cons (pv 1) (pa_cons (pv 4) (pa_cons (pv 5) pa_nil)))))))))))), ?_⟩
    refine ⟨_, rfl, _, _, rfl, .inl ⟨_, SqL.of hk, rfl⟩, rfl, _, rfl, ?_⟩
    rcases hl with hl | hl | hl
    · obtain rfl : ks = [] := List.eq_nil_of_length_eq_zero hl
      refine iteT ?_
      refine ⟨_, rfl, rfl, _, rfl, ?_⟩
      by_cases c0 : m = 0
      · rw [decide_eq_true (show V.int m = V.int 0 by rw [c0])]
        refine iteT ⟨_, rfl, mk_X (ns := [lo]) (ks := []) (by decide) rfl (by show 0 ≤ 90; decide) (one vlo) hV ?_⟩
        rw [show numOk m lo hi = okBV [lo] by unfold numOk; rw [if_pos c0]; rfl] at k
        exact k
      rw [decide_eq_false (show ¬ V.int m = V.int 0 from fun q => c0 (V.int.inj q))]
      refine iteF ⟨_, rfl, rfl, _, rfl, ?_⟩
      by_cases c1 : m = 1
      · rw [decide_eq_true (show V.int m = V.int 1 by rw [c1])]
        refine iteT ⟨_, rfl, mk_X (ns := [hi]) (ks := []) (by decide) rfl (by show 0 ≤ 90; decide) (one vhi) hV ?_⟩
        rw [show numOk m lo hi = okBV [hi] by unfold numOk; rw [if_neg c0, if_pos c1]; rfl] at k
        exact k
      rw [decide_eq_false (show ¬ V.int m = V.int 1 from fun q => c1 (V.int.inj q))]
      refine iteF ⟨_, rfl, rfl, _, rfl, ?_⟩
      by_cases c2 : m = 2
      · rw [decide_eq_true (show V.int m = V.int 2 by rw [c2])]
        refine iteT ⟨_, rfl, _, rfl, mk_X (ns := [lo, hi]) (ks := []) (by decide) rfl (by show 0 ≤ 90; decide) two hV ?_⟩
        rw [show numOk m lo hi = okWV [lo, hi] by unfold numOk; rw [if_neg c0, if_neg c1, if_pos c2]] at k
        exact k
      · rw [decide_eq_false (show ¬ V.int m = V.int 2 from fun q => c2 (V.int.inj q))]
        refine iteF ⟨_, rfl, mk_X (ns := [lo]) (ks := []) (by decide) rfl (by show 0 ≤ 90; decide) (one vlo) hV ?_⟩
        rw [show numOk m lo hi = okWV [lo, lo] by unfold numOk; rw [if_neg c0, if_neg c1, if_neg c2]] at k
        exact k
    · obtain ⟨y0, y1, rfl⟩ := len2 hl
      refine iteF ⟨_, rfl, _, _, rfl, .inl ⟨_, SqL.of hk, rfl⟩, rfl, _, rfl, iteF ?_⟩
      refine ⟨_, rfl, kl, _, rfl, SqL.of hk, rfl, _, _, rfl, _, _, rfl, rfl, ?_⟩
      refine ⟨_, rfl, rfl, _, rfl, ?_⟩
      by_cases c0 : m = 0
      · rw [decide_eq_true (show V.int m = V.int 0 by rw [c0])]
        refine iteT ⟨_, rfl, _, rfl, _, rfl, mk_X (ns := [lo]) (ks := [y0, y1]) (by decide) rfl (by show 2 ≤ 90; decide) (one vlo) hV ?_⟩
        rw [show numOk m lo hi = okBV [lo] by unfold numOk; rw [if_pos c0]; rfl] at k
        exact k
      rw [decide_eq_false (show ¬ V.int m = V.int 0 from fun q => c0 (V.int.inj q))]
      refine iteF ⟨_, rfl, rfl, _, rfl, ?_⟩
      by_cases c1 : m = 1
      · rw [decide_eq_true (show V.int m = V.int 1 by rw [c1])]
        refine iteT ⟨_, rfl, _, rfl, _, rfl, mk_X (ns := [hi]) (ks := [y0, y1]) (by decide) rfl (by show 2 ≤ 90; decide) (one vhi) hV ?_⟩
        rw [show numOk m lo hi = okBV [hi] by unfold numOk; rw [if_neg c0, if_pos c1]; rfl] at k
        exact k
      rw [decide_eq_false (show ¬ V.int m = V.int 1 from fun q => c1 (V.int.inj q))]
      refine iteF ⟨_, rfl, rfl, _, rfl, ?_⟩
      by_cases c2 : m = 2
      · rw [decide_eq_true (show V.int m = V.int 2 by rw [c2])]
        refine iteT ⟨_, rfl, _, rfl, _, rfl, _, rfl, mk_X (ns := [lo, hi]) (ks := [y0, y1]) (by decide) rfl (by show 2 ≤ 90; decide) two hV ?_⟩
        rw [show numOk m lo hi = okWV [lo, hi] by unfold numOk; rw [if_neg c0, if_neg c1, if_pos c2]] at k
        exact k
      · rw [decide_eq_false (show ¬ V.int m = V.int 2 from fun q => c2 (V.int.inj q))]
        refine iteF ⟨_, rfl, _, rfl, _, rfl, mk_X (ns := [lo]) (ks := [y0, y1]) (by decide) rfl (by show 2 ≤ 90; decide) (one vlo) hV ?_⟩
        rw [show numOk m lo hi = okWV [lo, lo] by unfold numOk; rw [if_neg c0, if_neg c1, if_neg c2]] at k
        exact k
    · obtain ⟨y0, y1, y2, y3, rfl⟩ : ∃ a b c d, ks = [a, b, c, d] := by
        match ks, hl with
        | [a, b, c, d], _ => exact ⟨a, b, c, d, rfl⟩
      refine iteF ⟨_, rfl, _, _, rfl, .inl ⟨_, SqL.of hk, rfl⟩, rfl, _, rfl, iteT ?_⟩
      refine ⟨_, rfl, kl, _, rfl, SqL.of hk, rfl, _, _, rfl, _, _, rfl, _, _, rfl, _, _, rfl, rfl, ?_⟩
      refine ⟨_, rfl, rfl, _, rfl, ?_⟩
      by_cases c0 : m = 0
      · rw [decide_eq_true (show V.int m = V.int 0 by rw [c0])]
        refine iteT ⟨_, rfl, _, rfl, _, rfl, _, rfl, _, rfl, mk_X (ns := [lo]) (ks := [y0, y1, y2, y3]) (by decide) rfl (by show 4 ≤ 90; decide) (one vlo) hV ?_⟩
        rw [show numOk m lo hi = okBV [lo] by unfold numOk; rw [if_pos c0]; rfl] at k
        exact k
      rw [decide_eq_false (show ¬ V.int m = V.int 0 from fun q => c0 (V.int.inj q))]
      refine iteF ⟨_, rfl, rfl, _, rfl, ?_⟩
      by_cases c1 : m = 1
      · rw [decide_eq_true (show V.int m = V.int 1 by rw [c1])]
        refine iteT ⟨_, rfl, _, rfl, _, rfl, _, rfl, _, rfl, mk_X (ns := [hi]) (ks := [y0, y1, y2, y3]) (by decide) rfl (by show 4 ≤ 90; decide) (one vhi) hV ?_⟩
        rw [show numOk m lo hi = okBV [hi] by unfold numOk; rw [if_neg c0, if_pos c1]; rfl] at k
        exact k
      rw [decide_eq_false (show ¬ V.int m = V.int 1 from fun q => c1 (V.int.inj q))]
      refine iteF ⟨_, rfl, rfl, _, rfl, ?_⟩
      by_cases c2 : m = 2
      · rw [decide_eq_true (show V.int m = V.int 2 by rw [c2])]
        refine iteT ⟨_, rfl, _, rfl, _, rfl, _, rfl, _, rfl, _, rfl, mk_X (ns := [lo, hi]) (ks := [y0, y1, y2, y3]) (by decide) rfl (by show 4 ≤ 90; decide) two hV ?_⟩
        rw [show numOk m lo hi = okWV [lo, hi] by unfold numOk; rw [if_neg c0, if_neg c1, if_pos c2]] at k
        exact k
      · rw [decide_eq_false (show ¬ V.int m = V.int 2 from fun q => c2 (V.int.inj q))]
        refine iteF ⟨_, rfl, _, rfl, _, rfl, _, rfl, _, rfl, mk_X (ns := [lo]) (ks := [y0, y1, y2, y3]) (by decide) rfl (by show 4 ≤ 90; decide) (one vlo) hV ?_⟩
        rw [show numOk m lo hi = okWV [lo, lo] by unfold numOk; rw [if_neg c0, if_neg c1, if_neg c2]] at k
        exact k
theorem ok_what {f fC B fX : Addr} {fd fdC fdX : FuncData} {ce cbs : Addr} (F : Fun K "_law_what" "_law_what" s_l_what f fd) (g : Bi mg) (FC : Def P w K mg base (L2.CX P w) 9 "_law_call" ["_law_mode", "_law_low", "_law_high", "_law_kinds_here"] (spCall B) fC fdC)
    (XB : XDef P w K mg base "BadRule" B fX "what" ["self", "what"] fdX) (EC : ExcC K B) (XF : XfC K B) (hno : PySem.W.findIn K (.ref B) "what" = some none) (mCE : mg "CountsheldError" = some (.ref ce)) (mBS : mg "BadRules" = some (.ref cbs)) (k1 : PySem.W.kitOne K (.ref B) (.ref ce) = some true) (k2 : PySem.W.kitOne K (.ref B) (.ref cbs) = some false) :
    FnOk P w K mg base CX0 10 f fd ["_law_mode", "_law_low", "_law_high", "_law_kinds_here"] spWhat := by
  obtain ⟨GC, mC, _, bC⟩ := id FC
  refine F.ok sc_l_what (fun vs H Q E h => ?_) (fun cdv A outer s H vs Q E hr h => ?_)
  · obtain ⟨_, _, _, _, _, rfl, _⟩ := h
    rfl
  · obtain ⟨m, lo, hi, kl, ks, rfl, vlo, vhi, hk, hl, hV, k⟩ := h
    have hrC : Room 9 _ := hr
    refine ⟨_, (pss_cons (ps_try_as (i := 4) rfl rfl sc_l_what.nd rfl rfl ⟨rfl, by decide, Or.inl XB.mg_⟩ takes0
          (fun W pn xe tk _ => pss_one (ps_expr (pe_callS GC hrC rfl mC FC.kp bC (fun σ => passAt tk σ) (pa_cons (pv 0) (pa_cons (pv 1) (pa_cons (pv 2) (pa_cons (pv 3) pa_nil)))))))
          (fun a oe cls d pn hz hf => pss_cons (ps_if (PW.pt (pw_or (pt_not (pt_val (pe_callB (call_isD hz hf) (by rfl) g.isinstance (by decide +kernel) (pa_cons (pv 4) (pa_cons (pe_glob (v := .ref ce) rfl mCE rfl) pa_nil))))) (pw_or1 (pt_val (pe_callB (call_isD hz hf) (by rfl) g.isinstance (by decide +kernel) (pa_cons (pv 4) (pa_cons (pe_glob (v := .ref cbs) rfl mBS rfl) pa_nil))))))) (pss_one (ps_ret pe_str)) pss_nil) (pss_one (ps_ret (pe_xf XF hno hz hf (pv 4))))))
      (pss_one (ps_ret pe_str))), ?_⟩
    have bad : ∀ z : Str, whatOf m lo hi ks = z → ∀ (H' : Hp) (dd : Addr), Same H H' → H' dd = none → Same H (upd H' dd (.xd [(("what" : Str), .str z)])) := fun z _ H' dd s' hdd => s'.trans (Same.new hdd)
    refine ⟨_, rfl, _, rfl, _, rfl, _, rfl, m, lo, hi, kl, ks, rfl, vlo, vhi, hk, hl, hV, fun e1 H' dd s' hdd => ?_, fun e1 e2 H' dd s' hdd => ?_, fun e1 e2 v H' s' => ?_⟩
    · refine ⟨true, XB.te, fun _ a ha => ?_, fun q => Bool.noConfusion q⟩
      refine ⟨_, rfl, B, dd, _, _, _, _, EC, rfl, rfl, upd_same, rfl, fun _ q => q, k1, _, rfl, iteF ?_⟩
      refine ⟨_, rfl, B, dd, _, _, _, _, EC, rfl, rfl, upd_same, rfl, fun _ q => q, k2, _, rfl, iteF ?_⟩
      refine ⟨_, rfl, rfl, rfl, dd, _, _, rfl, upd_same, rfl, ?_⟩
      have z := k _ (s'.trans (Same.new (o := .xd [(("what" : Str), .str "number")]) hdd))
      rw [show whatOf m lo hi ks = "number" by unfold whatOf; rw [if_pos e1]] at z
      exact z
    · refine ⟨true, XB.te, fun _ a ha => ?_, fun q => Bool.noConfusion q⟩
      refine ⟨_, rfl, B, dd, _, _, _, _, EC, rfl, rfl, upd_same, rfl, fun _ q => q, k1, _, rfl, iteF ?_⟩
      refine ⟨_, rfl, B, dd, _, _, _, _, EC, rfl, rfl, upd_same, rfl, fun _ q => q, k2, _, rfl, iteF ?_⟩
      refine ⟨_, rfl, rfl, rfl, dd, _, _, rfl, upd_same, rfl, ?_⟩
      have z := k _ (s'.trans (Same.new (o := .xd [(("what" : Str), .str "kinds")]) hdd))
      rw [show whatOf m lo hi ks = "kinds" by unfold whatOf; rw [if_neg (by rw [e1]; decide), if_pos e2]] at z
      exact z
    · have z := k H' s'
      rw [show whatOf m lo hi ks = "" by unfold whatOf; rw [if_neg (by rw [e1]; decide), if_neg (by rw [e2]; decide)]] at z
      exact z
theorem ok_wrongN {f : Addr} {fd : FuncData} (F : Fun K "_law_wrong_number" "_law_wrong_number" s_l_wrong_number f fd) (g : Bi mg) : FnOk P w K mg base CX0 1 f fd ["_law_choice"] spWrongN := by
  refine F.ok sc_l_wrong_number (fun vs H Q E h => ?_) (fun cdv A outer s H vs Q E hr h => ?_)
  · obtain ⟨_, rfl, _⟩ := h
    rfl
  · obtain ⟨c, rfl, c0, c8, k⟩ := h
    refine ⟨_, (pss_one (ps_ret (pe_ix ix_list (pe_lst (pa_cons (pe_un un_neg pe_int) (pa_cons pe_int (pa_cons pe_bl (pa_cons pe_non (pa_cons pe_str (pa_cons (pe_op op_pow pe_int pe_int) (pa_cons (pe_lst (pa_cons pe_int pa_nil)) (pa_cons pe_bl pa_nil))))))))) (pv 0) (fun _ _ => rfl)))), ?_⟩
    refine ⟨_, rfl, _, _, rfl, rfl, ⟨by decide, by decide, by decide⟩, by show 1 ≤ sizeLine; decide, fun l1 hl1 => ⟨by show 8 ≤ sizeLine; decide, fun q hq => ?_⟩⟩
    have s1 : Same H (upd H l1 (.lst [.int 1])) := Same.new hl1
    have g1 : (upd H l1 (.lst [.int 1])) l1 = some (.lst [.int 1]) := upd_same
    generalize upd H l1 (.lst [.int 1]) = H1 at s1 g1 hq
    generalize hL : ([V.int (-1), .int 10, .bl true, .non, .str "1", .int (10 ^ (30 : Int).toNat), .ref l1, .bl false] : List V) = L
    have s2 : Same H1 (upd H1 q (.lst L)) := Same.new hq
    have g2 : (upd H1 q (.lst L)) q = some (.lst L) := upd_same
    generalize upd H1 q (.lst L) = H2 at s2 g2
    have s12 := s1.trans s2
    obtain ⟨v, hv, vo, vb⟩ : ∃ v, atI L c = some v ∧ VO H2 v ∧ bndV v = false := by
      rw [← hL]
      rcases (show c = 0 ∨ c = 1 ∨ c = 2 ∨ c = 3 ∨ c = 4 ∨ c = 5 ∨ c = 6 ∨ c = 7 by omega) with rfl | rfl | rfl | rfl | rfl | rfl | rfl | rfl
      · exact ⟨_, rfl, .int _, by decide⟩
      · exact ⟨_, rfl, .int _, by decide⟩
      · exact ⟨_, rfl, .bl _, rfl⟩
      · exact ⟨_, rfl, .non, rfl⟩
      · exact ⟨_, rfl, .str _ (by decide), rfl⟩
      · exact ⟨_, rfl, .int _, by decide⟩
      · exact ⟨_, rfl, .lst (s2 _ _ g1), rfl⟩
      · exact ⟨_, rfl, .bl _, rfl⟩
    exact ⟨_, rfl, q, _, _, v, rfl, rfl, SqL.of g2, hv, k v H2 s12 vo vb⟩
theorem ok_wrongK {f : Addr} {fd : FuncData} (F : Fun K "_law_wrong_kinds" "_law_wrong_kinds" s_l_wrong_kinds f fd) (g : Bi mg) : FnOk P w K mg base CX0 1 f fd ["_law_choice", "_law_kinds_here"] (spWrongK K) := by
  refine F.ok sc_l_wrong_kinds (fun vs H Q E h => ?_) (fun cdv A outer s H vs Q E hr h => ?_)
  · obtain ⟨_, _, _, rfl, _⟩ := h
    rfl
  · obtain ⟨c, kl, ks, rfl, c0, c11, hk, hl, hK, k⟩ := h
    obtain ⟨o, o2, o3, o4, rfl⟩ : ∃ a b c d, ks = [a, b, c, d] := by
      match ks, hl with
      | [a, b, c, d], _ => exact ⟨a, b, c, d, rfl⟩
    have ho := hK o List.mem_cons_self
    have vo : ∀ H' : Hp, VO H' (.str o) := fun H' => .str o (Nat.le_trans ho.1.2.1 (by decide))
    refine ⟨_, (pss_cons (ps_set (i := 2) sc_l_wrong_kinds.nd rfl (Or.inl rfl) (pe_ix ix_list (pv 1) pe_int (fun _ _ => rfl)))
      (pss_cons (ps_set (i := 3) sc_l_wrong_kinds.nd rfl (Or.inl rfl) (pe_lst (pa_cons (pe_lst pa_nil) (pa_cons (pe_slice sl_list (pv 1) po_none (po_some pe_int)) (pa_cons (pe_lst (pa_cons (pv 2) (pa_cons (pv 2) pa_nil))) (pa_cons (pe_lst (pa_cons (pv 2) (pa_cons pe_str pa_nil))) (pa_cons (pe_lst (pa_cons (pv 2) (pa_cons pe_str pa_nil))) (pa_cons (pe_lst (pa_cons (pv 2) (pa_cons pe_bl pa_nil))) (pa_cons (pe_lst (pa_cons (pv 2) (pa_cons (pe_lst (pa_cons (pv 2) pa_nil)) pa_nil))) (pa_cons (pe_lst (pa_cons pe_str (pa_cons (pv 2) pa_nil))) pa_nil))))))))))
      (pss_one (ps_ret (pe_ix ix_list (pe_op op_cat (pv 3) (pe_lst (pa_cons (pe_lst (pa_cons (pv 2) (pa_cons pe_str pa_nil))) (pa_cons (pe_lst (pa_cons pe_str (pa_cons (pv 2) pa_nil))) (pa_cons (pe_lst (pa_cons pe_non (pa_cons (pv 2) pa_nil))) pa_nil))))) (pv 0) (fun _ _ => rfl)))))), ?_⟩
    refine ⟨_, rfl, kl, _, _, _, rfl, rfl, SqL.of hk, at_of (z := 0) (j := 0) (by omega) rfl, ?_⟩
    refine ⟨by show 0 ≤ sizeLine; decide, fun q1 hq1 => ?_⟩
    have s1 : Same H (upd H q1 (.lst [])) := Same.new hq1
    have g1 : (upd H q1 (.lst [])) q1 = some (.lst []) := upd_same
    generalize upd H q1 (.lst []) = H1 at s1 g1
    have hk1 := s1 _ _ hk
    refine ⟨_, rfl, _, rfl, kl, _, rfl, SqL.of hk1, fun q2 hq2 => ?_⟩
    have s2 : Same H1 (upd H1 q2 (.lst (cutV ([o, o2, o3, o4].map V.str) none (some 4)))) := Same.new hq2
    have g2 : (upd H1 q2 (.lst (cutV ([o, o2, o3, o4].map V.str) none (some 4)))) q2 = some (.lst (cutV ([o, o2, o3, o4].map V.str) none (some 4))) := upd_same
    generalize upd H1 q2 (.lst (cutV ([o, o2, o3, o4].map V.str) none (some 4))) = H2 at s2 g2
    refine ⟨_, rfl, _, rfl, by show 2 ≤ sizeLine; decide, fun q3 hq3 => ?_⟩
    have s3 : Same H2 (upd H2 q3 (.lst [.str o, .str o])) := Same.new hq3
    have g3 : (upd H2 q3 (.lst [.str o, .str o])) q3 = some (.lst [.str o, .str o]) := upd_same
    generalize upd H2 q3 (.lst [.str o, .str o]) = H3 at s3 g3
    refine ⟨_, rfl, by show 2 ≤ sizeLine; decide, fun q4 hq4 => ?_⟩
    have s4 : Same H3 (upd H3 q4 (.lst [.str o, .str "gone"])) := Same.new hq4
    have g4 : (upd H3 q4 (.lst [.str o, .str "gone"])) q4 = some (.lst [.str o, .str "gone"]) := upd_same
    generalize upd H3 q4 (.lst [.str o, .str "gone"]) = H4 at s4 g4
    refine ⟨_, rfl, by show 2 ≤ sizeLine; decide, fun q5 hq5 => ?_⟩
    have s5 : Same H4 (upd H4 q5 (.lst [.str o, .str "abcdefghi"])) := Same.new hq5
    have g5 : (upd H4 q5 (.lst [.str o, .str "abcdefghi"])) q5 = some (.lst [.str o, .str "abcdefghi"]) := upd_same
    generalize upd H4 q5 (.lst [.str o, .str "abcdefghi"]) = H5 at s5 g5
    refine ⟨_, rfl, by show 2 ≤ sizeLine; decide, fun q6 hq6 => ?_⟩
    have s6 : Same H5 (upd H5 q6 (.lst [.str o, .bl true])) := Same.new hq6
    have g6 : (upd H5 q6 (.lst [.str o, .bl true])) q6 = some (.lst [.str o, .bl true]) := upd_same
    generalize upd H5 q6 (.lst [.str o, .bl true]) = H6 at s6 g6
    refine ⟨_, rfl, _, rfl, by show 1 ≤ sizeLine; decide, fun q7 hq7 => ?_⟩
    have s7 : Same H6 (upd H6 q7 (.lst [.str o])) := Same.new hq7
    have g7 : (upd H6 q7 (.lst [.str o])) q7 = some (.lst [.str o]) := upd_same
    generalize upd H6 q7 (.lst [.str o]) = H7 at s7 g7
    refine ⟨by show 2 ≤ sizeLine; decide, fun q8 hq8 => ?_⟩
    have s8 : Same H7 (upd H7 q8 (.lst [.str o, .ref q7])) := Same.new hq8
    have g8 : (upd H7 q8 (.lst [.str o, .ref q7])) q8 = some (.lst [.str o, .ref q7]) := upd_same
    generalize upd H7 q8 (.lst [.str o, .ref q7]) = H8 at s8 g8
    refine ⟨_, rfl, by show 2 ≤ sizeLine; decide, fun q9 hq9 => ?_⟩
    have s9 : Same H8 (upd H8 q9 (.lst [.str "", .str o])) := Same.new hq9
    have g9 : (upd H8 q9 (.lst [.str "", .str o])) q9 = some (.lst [.str "", .str o]) := upd_same
    generalize upd H8 q9 (.lst [.str "", .str o]) = H9 at s9 g9
    refine ⟨by show 8 ≤ sizeLine; decide, fun q10 hq10 => ?_⟩
    have s10 : Same H9 (upd H9 q10 (.lst [.ref q1, .ref q2, .ref q3, .ref q4, .ref q5, .ref q6, .ref q8, .ref q9])) := Same.new hq10
    have g10 : (upd H9 q10 (.lst [.ref q1, .ref q2, .ref q3, .ref q4, .ref q5, .ref q6, .ref q8, .ref q9])) q10 = some (.lst [.ref q1, .ref q2, .ref q3, .ref q4, .ref q5, .ref q6, .ref q8, .ref q9]) := upd_same
    generalize upd H9 q10 (.lst [.ref q1, .ref q2, .ref q3, .ref q4, .ref q5, .ref q6, .ref q8, .ref q9]) = H10 at s10 g10
    refine ⟨_, rfl, _, rfl, by show 2 ≤ sizeLine; decide, fun q11 hq11 => ?_⟩
    have s11 : Same H10 (upd H10 q11 (.lst [.str o, .str "A"])) := Same.new hq11
    have g11 : (upd H10 q11 (.lst [.str o, .str "A"])) q11 = some (.lst [.str o, .str "A"]) := upd_same
    generalize upd H10 q11 (.lst [.str o, .str "A"]) = H11 at s11 g11
    refine ⟨_, rfl, by show 2 ≤ sizeLine; decide, fun q12 hq12 => ?_⟩
    have s12 : Same H11 (upd H11 q12 (.lst [.str "if", .str o])) := Same.new hq12
    have g12 : (upd H11 q12 (.lst [.str "if", .str o])) q12 = some (.lst [.str "if", .str o]) := upd_same
    generalize upd H11 q12 (.lst [.str "if", .str o]) = H12 at s12 g12
    refine ⟨_, rfl, by show 2 ≤ sizeLine; decide, fun q13 hq13 => ?_⟩
    have s13 : Same H12 (upd H12 q13 (.lst [.non, .str o])) := Same.new hq13
    have g13 : (upd H12 q13 (.lst [.non, .str o])) q13 = some (.lst [.non, .str o]) := upd_same
    generalize upd H12 q13 (.lst [.non, .str o]) = H13 at s13 g13
    refine ⟨by show 3 ≤ sizeLine; decide, fun q14 hq14 => ?_⟩
    have s14 : Same H13 (upd H13 q14 (.lst [.ref q11, .ref q12, .ref q13])) := Same.new hq14
    have g14 : (upd H13 q14 (.lst [.ref q11, .ref q12, .ref q13])) q14 = some (.lst [.ref q11, .ref q12, .ref q13]) := upd_same
    generalize upd H13 q14 (.lst [.ref q11, .ref q12, .ref q13]) = H14 at s14 g14
    refine ⟨q10, q14, _, _, rfl, rfl, (((s11.trans s12).trans s13).trans s14) _ _ g10, g14, by show 11 ≤ sizeLine; decide, fun q15 hq15 => ?_⟩
    have s15 : Same H14 (upd H14 q15 (.lst ([.ref q1, .ref q2, .ref q3, .ref q4, .ref q5, .ref q6, .ref q8, .ref q9] ++ [.ref q11, .ref q12, .ref q13]))) := Same.new hq15
    have g15 : (upd H14 q15 (.lst ([.ref q1, .ref q2, .ref q3, .ref q4, .ref q5, .ref q6, .ref q8, .ref q9] ++ [.ref q11, .ref q12, .ref q13]))) q15 = some (.lst ([.ref q1, .ref q2, .ref q3, .ref q4, .ref q5, .ref q6, .ref q8, .ref q9] ++ [.ref q11, .ref q12, .ref q13])) := upd_same
    generalize upd H14 q15 (.lst ([.ref q1, .ref q2, .ref q3, .ref q4, .ref q5, .ref q6, .ref q8, .ref q9] ++ [.ref q11, .ref q12, .ref q13])) = H15 at s15 g15
    have t15 := Same.refl H15
    have t14 := s15.trans t15
    have t13 := s14.trans t14
    have t12 := s13.trans t13
    have t11 := s12.trans t12
    have t10 := s11.trans t11
    have t9 := s10.trans t10
    have t8 := s9.trans t9
    have t7 := s8.trans t8
    have t6 := s7.trans t7
    have t5 := s6.trans t6
    have t4 := s5.trans t5
    have t3 := s4.trans t4
    have t2 := s3.trans t3
    have t1 := s2.trans t2
    have t0 := s1.trans t1
    have fin : ∀ (q : Addr) (vs : List V), atI ([V.ref q1, .ref q2, .ref q3, .ref q4, .ref q5, .ref q6, .ref q8, .ref q9] ++ [.ref q11, .ref q12, .ref q13]) c = some (.ref q) → H15 q = some (.lst vs) → (vs.length = 0 ∨ vs.length = 2 ∨ vs.length = 4) → (∀ v ∈ vs, VO H15 v) → kindsV vs = false →
        ∃ v, atI ([V.ref q1, .ref q2, .ref q3, .ref q4, .ref q5, .ref q6, .ref q8, .ref q9] ++ [.ref q11, .ref q12, .ref q13]) c = some v ∧ Q v H15 := fun q vs h1 h2 h3 h4 h5 => ⟨_, h1, k q H15 vs t0 h2 h3 h4 h5⟩
    have two : ∀ {x y : V}, VO H15 x → VO H15 y → ∀ v ∈ [x, y], VO H15 v := fun h1 h2 v hv => by
      rcases List.mem_cons.mp hv with e | e
      · rw [e]; exact h1
      · rw [List.mem_singleton.mp e]; exact h2
    have bad : ∀ {x y : V}, (kndV x = false ∨ kndV y = false ∨ x = y) → kindsV [x, y] = false := fun {x y} h => by
      unfold kindsV
      rcases h with h | h | h
      · simp [h]
      · simp [h]
      · simp [h]
    obtain ⟨v, hv, q⟩ : ∃ v, atI ([V.ref q1, .ref q2, .ref q3, .ref q4, .ref q5, .ref q6, .ref q8, .ref q9] ++ [.ref q11, .ref q12, .ref q13]) c = some v ∧ Q v H15 := by
      rcases (show c = 0 ∨ c = 1 ∨ c = 2 ∨ c = 3 ∨ c = 4 ∨ c = 5 ∨ c = 6 ∨ c = 7 ∨ c = 8 ∨ c = 9 ∨ c = 10 by omega) with rfl | rfl | rfl | rfl | rfl | rfl | rfl | rfl | rfl | rfl | rfl
      · exact fin q1 _ rfl (t1 _ _ g1) (.inl rfl) (fun v h => by cases h) rfl
      · refine fin q2 _ rfl (t2 _ _ g2) (.inr (.inr rfl)) (fun v h => ?_) rfl
        have h : v ∈ [V.str o, .str o2, .str o3, .str o4] := h
        simp only [List.mem_cons, List.not_mem_nil, or_false] at h
        have vk : ∀ z ∈ [o, o2, o3, o4], VO H15 (.str z) := fun z hz => .str z (Nat.le_trans (hK z hz).1.2.1 (by decide))
        rcases h with rfl | rfl | rfl | rfl <;> exact vk _ (by simp)
      · exact fin q3 _ rfl (t3 _ _ g3) (.inr (.inl rfl)) (two (vo _) (vo _)) (bad (.inr (.inr rfl)))
      · exact fin q4 _ rfl (t4 _ _ g4) (.inr (.inl rfl)) (two (vo _) (.str _ (by decide))) (bad (.inr (.inl (by decide +kernel))))
      · exact fin q5 _ rfl (t5 _ _ g5) (.inr (.inl rfl)) (two (vo _) (.str _ (by decide))) (bad (.inr (.inl (by decide +kernel))))
      · exact fin q6 _ rfl (t6 _ _ g6) (.inr (.inl rfl)) (two (vo _) (.bl _)) (bad (.inr (.inl rfl)))
      · exact fin q8 _ rfl (t8 _ _ g8) (.inr (.inl rfl)) (two (vo _) (.lst (t7 _ _ g7))) (bad (.inr (.inl rfl)))
      · exact fin q9 _ rfl (t9 _ _ g9) (.inr (.inl rfl)) (two (.str _ (by decide)) (vo _)) (bad (.inl (by decide +kernel)))
      · exact fin q11 _ rfl (t11 _ _ g11) (.inr (.inl rfl)) (two (vo _) (.str _ (by decide))) (bad (.inr (.inl (by decide +kernel))))
      · exact fin q12 _ rfl (t12 _ _ g12) (.inr (.inl rfl)) (two (.str _ (by decide)) (vo _)) (bad (.inl (by decide +kernel)))
      · exact fin q13 _ rfl (t13 _ _ g13) (.inr (.inl rfl)) (two .non (vo _)) (bad (.inl rfl))
    exact ⟨_, rfl, q15, _, _, v, rfl, rfl, SqL.of g15, hv, q⟩
end
end Cs

set_option Elab.async false
set_option linter.all false
set_option maxRecDepth 100000
set_option maxHeartbeats 8000000
set_option pp.maxSteps 600
/-! The law of rules refused. -/
namespace Cs
open PySem L2
theorem VO.kp {H H' : Hp} {p c : Addr} {v : V} (S : Src H' p c) (k : Kp p H H') (h : VO H v) : VO H' v := by
  obtain ⟨xs, hp⟩ := S.at_p
  cases h with
  | non => exact .non
  | bl b => exact .bl b
  | int n => exact .int n
  | str z h => exact .str z h
  | @lst a ys h =>
    by_cases e : a = p
    · rw [e]; exact .lst hp
    · exact .lst (k _ _ h e)
  | @tup a ys h =>
    by_cases e : a = p
    · rw [e]; exact .lst hp
    · exact .tup (k _ _ h e)
theorem kindsV_of {zs : List Str} (h : Kinds zs) : kindsV (zs.map V.str) = true := by
  have h1 := h.lo
  have h2 := h.hi
  unfold kindsV
  rw [List.length_map, decide_eq_true h1, decide_eq_true h2, decide_eq_true (str_inj_nodup.mpr h.nd), Bool.and_true, Bool.and_true, Bool.true_and, List.all_map, List.all_eq_true]
  exact fun z hz => kindB_of (h.kd z hz)
theorem kind_vo {H : Hp} {z : Str} (h : Kind z) : VO H (.str z) := .str z (Nat.le_trans h.1.2.1 (by decide))
theorem bnd_of {n : Int} (h : Bnd9 n) : bndV (.int n) = true := by
  show (decide (0 ≤ n) && decide (n ≤ 9)) = true
  rw [decide_eq_true h.1, decide_eq_true h.2]
  rfl
theorem okW_of {l h : Int} (hl : Bnd9 l) (hh : Bnd9 h) (e : l ≤ h) : okWV [.int l, .int h] = true := by
  show ((bndV (.int l) && bndV (.int h)) && decide (l ≤ h)) = true
  rw [bnd_of hl, bnd_of hh, decide_eq_true e]
  rfl
theorem num_good {m l h : Int} (hl : Bnd9 l) (hh : Bnd9 h) (e : l ≤ h) : numOk m (.int l) (.int h) = true := by
  unfold numOk
  split
  · exact bnd_of hl
  · split
    · exact bnd_of hh
    · split
      · exact okW_of hl hh e
      · exact okW_of hl hl (Int.le_refl _)
theorem num_bad {m : Int} {v : V} (h : bndV v = false) : numOk m v v = false := by
  unfold numOk
  split
  · exact h
  · split
    · exact h
    · split
      · exact okW_neg (.inl h)
      · exact okW_neg (.inl h)
theorem what_good {m : Int} {l h : V} {ks : List V} (a : numOk m l h = true) (b : kindsV ks = true) : whatOf m l h ks = "" := by unfold whatOf; rw [if_neg (by rw [a]; decide), if_neg (by rw [b]; decide)]
theorem what_kinds {m : Int} {l h : V} {ks : List V} (a : numOk m l h = true) (b : kindsV ks = false) : whatOf m l h ks = "kinds" := by unfold whatOf; rw [if_neg (by rw [a]; decide), if_pos b]
theorem what_num {m : Int} {l h : V} {ks : List V} (a : numOk m l h = false) : whatOf m l h ks = "number" := by unfold whatOf; rw [if_pos a]
theorem what_ask {m : Int} {lo hi : V} {kl : Addr} {ks : List V} {H : Hp} {Q : VK} {E : XK} {z : Str} (vlo : VO H lo) (vhi : VO H hi) (hk : H kl = some (.lst ks)) (hl : ks.length = 0 ∨ ks.length = 2 ∨ ks.length = 4) (hV : ∀ v ∈ ks, VO H v) (hz : whatOf m lo hi ks = z) (q : ∀ H', Same H H' → Q (.str z) H') : spWhat [.int m, lo, hi, .ref kl] H Q E :=
  ⟨m, lo, hi, kl, ks, rfl, vlo, vhi, hk, hl, hV, fun H' s => by rw [hz]; exact q H' s⟩
theorem two_vo {H : Hp} {x y : V} (h1 : VO H x) (h2 : VO H y) : ∀ v ∈ [x, y], VO H v := fun v hv => by
  rcases List.mem_cons.mp hv with e | e
  · rw [e]; exact h1
  · rw [List.mem_singleton.mp e]; exact h2
theorem res_len : ∀ z ∈ RES, z.length ≤ 8 := by decide +kernel
theorem res_x : ∀ z ∈ RES, kindsV [.str (z ++ "x"), .str ("x" ++ z)] = true := by
  unfold RES
  intro z hz
  simp only [List.mem_cons, List.not_mem_nil, or_false] at hz
  rcases hz with rfl | rfl | rfl | rfl | rfl | rfl | rfl | rfl | rfl | rfl | rfl | rfl | rfl | rfl | rfl | rfl <;> decide +kernel
theorem res_no {z : Str} (h : z ∈ RES) : kndV (.str z) = false := by
  show (wordB z && !decide (z ∈ RES)) = false
  rw [decide_eq_true h]
  simp
theorem bad_two {x y : V} (h : kndV x = false ∨ kndV y = false) : kindsV [x, y] = false := by
  unfold kindsV
  rcases h with h | h <;> simp [h]
section
variable {P : Program} {w : World} {K : PySem.W.Frag} {mg : Str → Option Value} {base : Heap}
theorem ok_law {f fS fD fKs fFo fWh fWn fWk : Addr} {fd fdS fdD fdKs fdFo fdWh fdWn fdWk : FuncData} {a : RAd} (F : Fun K "law" "law" s_law f fd) (g : Bi mg)
    (FS : Def P w K mg base CX0 1 "_law_source" ["_law_script"] (spSource K) fS fdS) (FD : Def P w K mg base CX0 2 "_law_draw" ["_law_source_here", "_law_size"] spDraw fD fdD) (FKs : Def P w K mg base CX0 4 "_law_kinds" ["_law_source_here", "_law_many"] spKinds fKs fdKs)
    (FFo : Def P w K mg base CX0 9 "_law_four" ["_law_low", "_law_high", "_law_kinds_here"] (spFour a) fFo fdFo) (FWh : Def P w K mg base CX0 10 "_law_what" ["_law_mode", "_law_low", "_law_high", "_law_kinds_here"] spWhat fWh fdWh)
    (FWn : Def P w K mg base CX0 1 "_law_wrong_number" ["_law_choice"] spWrongN fWn fdWn) (FWk : Def P w K mg base CX0 1 "_law_wrong_kinds" ["_law_choice", "_law_kinds_here"] (spWrongK K) fWk fdWk) :
    FnOk P w K mg base CX0 11 f fd ["_law_script"] (spLawR K) := by
  obtain ⟨GS, mS, _, bS⟩ := id FS
  obtain ⟨GD, mD, _, bD⟩ := id FD
  obtain ⟨GKs, mKs, _, bKs⟩ := id FKs
  obtain ⟨GFo, mFo, _, bFo⟩ := id FFo
  obtain ⟨GWh, mWh, _, bWh⟩ := id FWh
  obtain ⟨GWn, mWn, _, bWn⟩ := id FWn
  obtain ⟨GWk, mWk, _, bWk⟩ := id FWk
  refine F.ok sc_law (fun vs H Q E h => ?_) (fun cdv A outer s H vs Q E hr h => ?_)
  · obtain ⟨_, _, rfl, _⟩ := h
    rfl
  · obtain ⟨sc, ns, rfl, hS, hlen, k⟩ := h
    have hrS : Room 1 _ := hr.mono (by decide)
    have hrWn : Room 1 _ := hr.mono (by decide)
    have hrWk : Room 1 _ := hr.mono (by decide)
    have hrD : Room 2 _ := hr.mono (by decide)
    have hrKs : Room 4 _ := hr.mono (by decide)
    have hrFo : Room 9 _ := hr.mono (by decide)
    have hrWh : Room 10 _ := hr
    refine ⟨_, (pss_cons (ps_set (i := 1) sc_law.nd rfl (Or.inl rfl) (pe_call GS hrS rfl mS FS.kp bS .nil pass0 (pa_cons (pv 0) pa_nil)))
      (pss_cons (ps_set (i := 2) sc_law.nd rfl (Or.inl rfl) (pe_call GKs hrKs rfl mKs FKs.kp bKs .nil pass0 (pa_cons (pv 1) (pa_cons pe_int pa_nil))))
      (pss_cons (ps_set (i := 3) sc_law.nd rfl (Or.inl rfl) (pe_call GD hrD rfl mD FD.kp bD .nil pass0 (pa_cons (pv 1) (pa_cons pe_int pa_nil))))
      (pss_cons (ps_set (i := 4) sc_law.nd rfl (Or.inl rfl) (pe_op op_add (pv 3) (pe_call GD hrD rfl mD FD.kp bD .nil pass0 (pa_cons (pv 1) (pa_cons (pe_op op_sub pe_int (pv 3)) pa_nil)))))
      (pss_cons (ps_set (i := 5) sc_law.nd rfl (Or.inl rfl) (pe_call GWn hrWn rfl mWn FWn.kp bWn .nil pass0 (pa_cons (pe_call GD hrD rfl mD FD.kp bD .nil pass0 (pa_cons (pv 1) (pa_cons pe_int pa_nil))) pa_nil)))
      (pss_cons (ps_set (i := 6) sc_law.nd rfl (Or.inl rfl) (pe_call GWk hrWk rfl mWk FWk.kp bWk .nil pass0 (pa_cons (pe_call GD hrD rfl mD FD.kp bD .nil pass0 (pa_cons (pv 1) (pa_cons pe_int pa_nil))) (pa_cons (pv 2) pa_nil))))
      (pss_cons (ps_for PassesOwn.never rfl (pi_range1 rfl g.range (pa_cons pe_int pa_nil)) (pg_name (i := 7) sc_law.nd rfl (Or.inl rfl)) (pss_cons (ps_if (PW.pt (pw_or (pt_cmpR op_ne (pe_call GWh hrWh rfl mWh FWh.kp bWh .nil pass0 (pa_cons (pv 7) (pa_cons (pv 3) (pa_cons (pv 4) (pa_cons (pe_slice sl_list (pv 2) po_none (po_some pe_int)) pa_nil))))) pe_str (nomark _)) (pw_or1 (pt_cmpR op_ne (pe_call GWh hrWh rfl mWh FWh.kp bWh .nil pass0 (pa_cons (pv 7) (pa_cons (pv 3) (pa_cons (pv 4) (pa_cons (pv 6) pa_nil))))) pe_str (nomark _))))) (pss_one (ps_ret pe_bl)) pss_nil)
      (pss_one (ps_if (PW.pt (pw_or (pt_cmpR op_ne (pe_call GWh hrWh rfl mWh FWh.kp bWh .nil pass0 (pa_cons (pv 7) (pa_cons (pv 5) (pa_cons (pv 5) (pa_cons (pe_slice sl_list (pv 2) po_none (po_some pe_int)) pa_nil))))) pe_str (nomark _)) (pw_or1 (pt_cmpR op_ne (pe_call GWh hrWh rfl mWh FWh.kp bWh .nil pass0 (pa_cons (pv 7) (pa_cons (pv 5) (pa_cons (pv 5) (pa_cons (pv 6) pa_nil))))) pe_str (nomark _))))) (pss_one (ps_ret pe_bl)) pss_nil))))
      (pss_cons (ps_if (PW.pt (pw_or (pt_cmpR op_ne (pe_call GWh hrWh rfl mWh FWh.kp bWh .nil pass0 (pa_cons pe_int (pa_cons (pv 5) (pa_cons (pv 4) (pa_cons (pe_slice sl_list (pv 2) po_none (po_some pe_int)) pa_nil))))) pe_str (nomark _)) (pw_or1 (pt_cmpR op_ne (pe_call GWh hrWh rfl mWh FWh.kp bWh .nil pass0 (pa_cons pe_int (pa_cons (pv 3) (pa_cons (pv 5) (pa_cons (pe_slice sl_list (pv 2) (po_some pe_int) (po_some pe_int)) pa_nil))))) pe_str (nomark _))))) (pss_one (ps_ret pe_bl)) pss_nil)
      (C8.pss_cut (ps_if (PW.pt (pw_and (pt_cmpR op_gt (pv 4) (pv 3) (nomark _)) (pw_and1 (pt_cmpR op_ne (pe_call GWh hrWh rfl mWh FWh.kp bWh .nil pass0 (pa_cons pe_int (pa_cons (pv 4) (pa_cons (pv 3) (pa_cons (pe_slice sl_list (pv 2) po_none (po_some pe_int)) pa_nil))))) pe_str (nomark _))))) (pss_one (ps_ret pe_bl)) pss_nil)
      (C8.pss_cut (ps_if (PW.pt (pw_and (pt_cmpR op_gt (pv 4) (pv 3) (nomark _)) (pw_and1 (pt_cmpR op_ne (pe_call GWh hrWh rfl mWh FWh.kp bWh .nil pass0 (pa_cons pe_int (pa_cons (pv 4) (pa_cons (pv 3) (pa_cons (pv 6) pa_nil))))) pe_str (nomark _))))) (pss_one (ps_ret pe_bl)) pss_nil)
      (pss_cons (ps_set (i := 8) sc_law.nd rfl (Or.inl rfl) (pe_lst (pa_cons pe_str (pa_cons pe_str (pa_cons pe_str (pa_cons pe_str (pa_cons pe_str (pa_cons pe_str (pa_cons pe_str (pa_cons pe_str (pa_cons pe_str (pa_cons pe_str (pa_cons pe_str (pa_cons pe_str (pa_cons pe_str (pa_cons pe_str pa_nil))))))))))))))))
      (pss_cons (ps_for PassesOwn.never rfl (pi_list (pe_op op_cat (pv 8) (pe_lst (pa_cons pe_str (pa_cons pe_str pa_nil))))) (pg_name (i := 9) sc_law.nd rfl (Or.inl rfl)) (pss_cons (ps_if (PW.pt (pw_or (pt_cmpR op_ne (pe_call GWh hrWh rfl mWh FWh.kp bWh .nil pass0 (pa_cons pe_int (pa_cons (pv 3) (pa_cons (pv 4) (pa_cons (pe_lst (pa_cons (pv 9) (pa_cons (pe_ix ix_list (pv 2) pe_int (fun _ _ => rfl)) pa_nil))) pa_nil))))) pe_str (nomark _)) (pw_or1 (pt_cmpR op_ne (pe_call GWh hrWh rfl mWh FWh.kp bWh .nil pass0 (pa_cons pe_int (pa_cons (pv 3) (pa_cons (pv 4) (pa_cons (pe_lst (pa_cons (pe_ix ix_list (pv 2) pe_int (fun _ _ => rfl)) (pa_cons (pv 9) pa_nil))) pa_nil))))) pe_str (nomark _))))) (pss_one (ps_ret pe_bl)) pss_nil)
      (pss_one (ps_if (pt_cmpR op_ne (pe_call GWh hrWh rfl mWh FWh.kp bWh .nil pass0 (pa_cons pe_int (pa_cons (pv 3) (pa_cons (pv 4) (pa_cons (pe_lst (pa_cons (pe_op op_add_str (pv 9) pe_str) (pa_cons (pe_op op_add_str pe_str (pv 9)) pa_nil))) pa_nil))))) pe_str (nomark _)) (pss_one (ps_ret pe_bl)) pss_nil))))
      (pss_one (ps_ret (pe_and (pe_cmpR op_eq (pe_callB call_len (by rfl) g.len PySem.boot_len (pa_cons (pe_call GFo hrFo rfl mFo FFo.kp bFo .nil pass0 (pa_cons (pv 3) (pa_cons (pv 4) (pa_cons (pe_slice sl_list (pv 2) po_none (po_some pe_int)) pa_nil)))) pa_nil)) pe_int (nomark _)) (pe_one (pe_cmpR op_eq (pe_callB call_len (by rfl) g.len PySem.boot_len (pa_cons (pe_call GFo hrFo rfl mFo FFo.kp bFo .nil pass0 (pa_cons pe_int (pa_cons pe_int (pa_cons (pe_slice sl_list (pv 2) (po_some pe_int) po_none) pa_nil)))) pa_nil)) pe_int (nomark _)))))))))))))))))), ?_⟩
    refine ⟨_, rfl, sc, ns, rfl, hS, fun p c H1 hp hc s1 S1 => ?_⟩
    refine ⟨_, rfl, p, c, 4, rfl, S1, by decide, fun kl H2 ks hkl hk2 hkn hknd hkk S2 k2 => ?_⟩
    have nkp : kl ≠ p := S1.new_p hkl
    refine ⟨_, rfl, p, c, 10, rfl, S2, by decide, by decide, fun lo H3 lo0 lo1 S3 k3 => ?_⟩
    refine ⟨_, rfl, _, rfl, _, rfl, _, _, rfl, rfl, p, c, 10 - lo, rfl, S3, by omega, by omega, fun v2 H4 v20 v21 S4 k4 => ⟨_, _, rfl, rfl, ?_⟩⟩
    have hlo : Bnd9 lo := ⟨lo0, by omega⟩
    have hhi : Bnd9 (lo + v2) := ⟨by omega, by omega⟩
    generalize ehi : lo + v2 = hi at hhi
    have hle : lo ≤ hi := by omega
    refine ⟨_, rfl, p, c, 8, rfl, S4, by decide, by decide, fun v3 H5 v30 v31 S5 k5 => ⟨v3, rfl, v30, v31, fun wr H6 s6 vw wb => ?_⟩⟩
    have S6 := S5.same s6
    have hk6 : H6 kl = some (.lst (ks.map V.str)) := s6 _ _ (k5 _ _ (k4 _ _ (k3 _ _ hk2 nkp) nkp) nkp)
    refine ⟨_, rfl, p, c, 11, rfl, S6, by decide, by decide, fun v4 H7 v40 v41 S7 k7 => ⟨_, rfl, v4, kl, ks, rfl, v40, v41, k7 _ _ hk6 nkp, hkn, hkk, fun bq H8 bs s8 hbq hbl hbV hbad => ?_⟩⟩
    have hk := s8 _ _ (k7 _ _ hk6 nkp)
    have vw8 : VO H8 wr := (vw.kp S7 k7).same s8
    obtain ⟨o1, o2, o3, o4, rfl⟩ : ∃ a b c d, ks = [a, b, c, d] := by
      match ks, hkn with
      | [a, b, c, d], _ => exact ⟨a, b, c, d, rfl⟩
    clear hk6 hk2 hkl vw hkn v20 v21 v30 v31 v40 v41 S1 S2 S3 S4 S5 S6 S7 k2 k3 k4 k5 s6 k7 s8 s1 hp hc hS
    have q1 := hkk o1 (by simp)
    have q2 := hkk o2 (by simp)
    have q3 := hkk o3 (by simp)
    have q4 := hkk o4 (by simp)
    have K12 : Kinds [o1, o2] := ⟨by simp, by simp, hknd.sublist (by simp), fun z hz => hkk z (by simp at hz ⊢; rcases hz with h | h <;> simp [h])⟩
    have K123 : Kinds [o1, o2, o3] := ⟨by simp, by simp, hknd.sublist (by simp), fun z hz => hkk z (by simp at hz ⊢; rcases hz with h | h | h <;> simp [h])⟩
    have K4 : Kinds [o4] := ⟨by simp, by simp, by simp, fun z hz => hkk z (by simp at hz ⊢; simp [hz])⟩
    have vl : ∀ H' : Hp, VO H' (.int lo) := fun _ => .int lo
    have vh : ∀ H' : Hp, VO H' (.int hi) := fun _ => .int hi
    have ng : ∀ m, numOk m (.int lo) (.int hi) = true := fun m => num_good hlo hhi hle
    have v12 : ∀ H' : Hp, ∀ v ∈ [V.str o1, V.str o2], VO H' v := fun H' => two_vo (kind_vo q1) (kind_vo q2)
    have v23 : ∀ H' : Hp, ∀ v ∈ [V.str o2, V.str o3], VO H' v := fun H' => two_vo (kind_vo q2) (kind_vo q3)
    have g12 : kindsV [V.str o1, V.str o2] = true := kindsV_of K12
    refine ⟨4, rfl, by decide, by decide, ?_⟩
    refine for_range (lo := 0) (n := 4) (fun i σ' H' => ∃ x7 x8 x9 : Option V, σ' = [some (.ref sc), some (.ref p), some (.ref kl), some (.int lo), some (.int hi), some wr, some (.ref bq), x7, x8, x9] ∧ Same H8 H')
      ⟨_, _, _, by rw [← ehi]; rfl, Same.refl _⟩ ?_ ?_
    · rintro i σ' H' hi4 ⟨x7, x8, x9, rfl, t0⟩
      refine ⟨_, rfl, _, rfl, _, rfl, _, rfl, _, rfl, kl, _, rfl, SqL.of (t0 _ _ hk), fun qa ha => ?_⟩
      have t1 := t0.trans (Same.new (o := .lst [.str o1, .str o2]) ha)
      refine nil_it <| what_ask (ks := [.str o1, .str o2]) (vl _) (vh _) upd_same (.inr (.inl rfl)) (v12 _) (what_good (ng _) g12) fun H9 s9 => ⟨rfl, _, rfl, iteF ?_⟩
      have t2 := t1.trans s9
      refine ⟨_, rfl, _, rfl, _, rfl, _, rfl, nil_it <| what_ask (ks := bs) (vl _) (vh _) (t2 _ _ hbq) hbl (fun v hv => (hbV v hv).same t2) (what_kinds (ng _) hbad) fun H10 s10 => ⟨rfl, _, rfl, iteF ?_⟩⟩
      have t3 := t2.trans s10
      refine ⟨_, rfl, _, rfl, _, rfl, _, rfl, _, rfl, kl, _, rfl, SqL.of (t3 _ _ hk), fun qb hb => ?_⟩
      have t4 := t3.trans (Same.new (o := .lst [.str o1, .str o2]) hb)
      refine nil_it <| what_ask (ks := [.str o1, .str o2]) (vw8.same t4) (vw8.same t4) upd_same (.inr (.inl rfl)) (v12 _) (what_num (num_bad wb)) fun H11 s11 => ⟨rfl, _, rfl, iteF ?_⟩
      have t5 := t4.trans s11
      refine ⟨_, rfl, _, rfl, _, rfl, _, rfl, nil_it <| what_ask (ks := bs) (vw8.same t5) (vw8.same t5) (t5 _ _ hbq) hbl (fun v hv => (hbV v hv).same t5) (what_num (num_bad wb)) fun H12 s12 => ⟨rfl, _, rfl, iteF ?_⟩⟩
      exact ⟨_, _, _, rfl, t5.trans s12⟩
    rintro σ' H' ⟨x7, x8, x9, rfl, t0⟩
    refine ⟨_, rfl, _, rfl, _, rfl, _, rfl, kl, _, rfl, SqL.of (t0 _ _ hk), fun qa ha => ?_⟩
    have t1 := t0.trans (Same.new (o := .lst [.str o1, .str o2]) ha)
    refine nil_it <| what_ask (m := 2) (ks := [.str o1, .str o2]) (vw8.same t1) (vh _) upd_same (.inr (.inl rfl)) (v12 _) (what_num (okW_neg (.inl wb))) fun H9 s9 => ⟨rfl, _, rfl, iteF ?_⟩
    have t2 := t1.trans s9
    refine ⟨_, rfl, _, rfl, _, rfl, _, rfl, _, rfl, kl, _, rfl, SqL.of (t2 _ _ hk), fun qb hb => ?_⟩
    have t3 := t2.trans (Same.new (o := .lst [.str o2, .str o3]) hb)
    refine nil_it <| what_ask (m := 2) (ks := [.str o2, .str o3]) (vl _) (vw8.same t3) upd_same (.inr (.inl rfl)) (v23 _) (what_num (okW_neg (.inr wb))) fun H10 s10 => ⟨rfl, _, rfl, iteF ?_⟩
    have t4 := t3.trans s10
    have nb : lo < hi → numOk 2 (.int hi) (.int lo) = false := fun q => by
      show ((bndV (.int hi) && bndV (.int lo)) && decide (hi ≤ lo)) = false
      rw [decide_eq_false (show ¬ hi ≤ lo by omega), Bool.and_false]
    -- the ends exchanged
    refine ⟨fun σ2 H2 => σ2 = [some (.ref sc), some (.ref p), some (.ref kl), some (.int lo), some (.int hi), some wr, some (.ref bq), x7, x8, x9] ∧ Same H8 H2, ?_, ?_⟩
    · refine ⟨_, rfl, _, rfl, _, _, rfl, rfl, _, rfl, ?_⟩
      by_cases cw : lo < hi
      · rw [decide_eq_true cw]
        refine iteT ⟨_, rfl, _, rfl, _, rfl, _, rfl, kl, _, rfl, SqL.of (t4 _ _ hk), fun qc hc => ?_⟩
        have t5 := t4.trans (Same.new (o := .lst [.str o1, .str o2]) hc)
        refine nil_it <| what_ask (m := 2) (ks := [.str o1, .str o2]) (vh _) (vl _) upd_same (.inr (.inl rfl)) (v12 _) (what_num (nb cw)) fun H11 s11 => ⟨rfl, _, rfl, iteF ?_⟩
        exact ⟨rfl, t5.trans s11⟩
      · rw [decide_eq_false cw]
        exact iteF ⟨rfl, t4⟩
    rintro σ2 H11 ⟨rfl, t5⟩
    refine ⟨fun σ2 H2 => σ2 = [some (.ref sc), some (.ref p), some (.ref kl), some (.int lo), some (.int hi), some wr, some (.ref bq), x7, x8, x9] ∧ Same H8 H2, ?_, ?_⟩
    · refine ⟨_, rfl, _, rfl, _, _, rfl, rfl, _, rfl, ?_⟩
      by_cases cw : lo < hi
      · rw [decide_eq_true cw]
        refine iteT ⟨_, rfl, _, rfl, _, rfl, nil_it <| what_ask (m := 2) (ks := bs) (vh _) (vl _) (t5 _ _ hbq) hbl (fun v hv => (hbV v hv).same t5) (what_num (nb cw)) fun H12 s12 => ⟨rfl, _, rfl, iteF ?_⟩⟩
        exact ⟨rfl, t5.trans s12⟩
      · rw [decide_eq_false cw]
        exact iteF ⟨rfl, t5⟩
    rintro σ2 H12 ⟨rfl, t6⟩
    -- the barred words
    refine ⟨by show 14 ≤ sizeLine; decide, fun b1 hb1 => ?_⟩
    generalize hB1 : ([V.str "hold", .str "look", .str "do", .str "row", .str "one", .str "all", .str "new", .str "give", .str "take", .str "join", .str "other", .str "if", .str "and", .str "or"] : List V) = B1
    have u1 : Same H12 (upd H12 b1 (.lst B1)) := Same.new hb1
    have h1 : (upd H12 b1 (.lst B1)) b1 = some (.lst B1) := upd_same
    generalize upd H12 b1 (.lst B1) = H13 at u1 h1
    refine ⟨_, rfl, by show 2 ≤ sizeLine; decide, fun b2 hb2 => ?_⟩
    have u2 : Same H13 (upd H13 b2 (.lst [.str "then", .str "gone"])) := Same.new hb2
    have h2 : (upd H13 b2 (.lst [.str "then", .str "gone"])) b2 = some (.lst [.str "then", .str "gone"]) := upd_same
    generalize upd H13 b2 (.lst [.str "then", .str "gone"]) = H14 at u2 h2
    refine ⟨b1, b2, _, _, rfl, rfl, u2 _ _ h1, h2, by rw [← hB1]; show 14 + 2 ≤ sizeLine; decide, fun b3 hb3 => ?_⟩
    have eR : B1 ++ [.str "then", .str "gone"] = RES.map V.str := by rw [← hB1]; rfl
    rw [eR]
    have u3 : Same H14 (upd H14 b3 (.lst (RES.map V.str))) := Same.new hb3
    have h3 : (upd H14 b3 (.lst (RES.map V.str))) b3 = some (.lst (RES.map V.str)) := upd_same
    generalize upd H14 b3 (.lst (RES.map V.str)) = H15 at u3 h3
    have t7 := ((t6.trans u1).trans u2).trans u3
    refine ⟨b3, rfl, ⟨_, SqL.of h3⟩, ?_⟩
    refine for_list (K := K) (a := b3) (xs := RES.map V.str) (fun j σ' H' => ∃ y7 y9 : Option V, σ' = [some (.ref sc), some (.ref p), some (.ref kl), some (.int lo), some (.int hi), some wr, some (.ref bq), y7, some (.ref b1), y9] ∧ Same H15 H')
      ⟨_, _, rfl, Same.refl _⟩ (fun j σ' H' _ ⟨_, _, _, q⟩ => SqL.of (q _ _ h3)) ?_ ?_
    · rintro j x σ' H' hj ⟨y7, y9, rfl, q⟩
      obtain ⟨z, hz, rfl⟩ := List.mem_map.mp (List.mem_of_getElem? hj)
      have hz8 := res_len z hz
      have vz : ∀ H' : Hp, VO H' (.str z) := fun _ => .str z (Nat.le_trans hz8 (by decide))
      have t8 := t7.trans q
      refine ⟨_, rfl, _, rfl, _, rfl, _, rfl, kl, _, _, _, rfl, rfl, SqL.of (t8 _ _ hk), at_of (z := 0) (j := 0) (by omega) rfl, by show 2 ≤ sizeLine; decide, fun qa ha => ?_⟩
      have t9 := t8.trans (Same.new (o := .lst [.str z, .str o1]) ha)
      refine nil_it <| what_ask (m := 0) (ks := [.str z, .str o1]) (vl _) (vh _) upd_same (.inr (.inl rfl)) (two_vo (vz _) (kind_vo q1)) (what_kinds (ng _) (bad_two (.inl (res_no hz)))) fun H16 s16 => ⟨rfl, _, rfl, iteF ?_⟩
      have t10 := t9.trans s16
      refine ⟨_, rfl, _, rfl, _, rfl, kl, _, _, _, rfl, rfl, SqL.of (t10 _ _ hk), at_of (z := 0) (j := 0) (by omega) rfl, _, rfl, by show 2 ≤ sizeLine; decide, fun qb hb => ?_⟩
      have t11 := t10.trans (Same.new (o := .lst [.str o1, .str z]) hb)
      refine nil_it <| what_ask (m := 3) (ks := [.str o1, .str z]) (vl _) (vh _) upd_same (.inr (.inl rfl)) (two_vo (kind_vo q1) (vz _)) (what_kinds (ng _) (bad_two (.inr (res_no hz)))) fun H17 s17 => ⟨rfl, _, rfl, iteF ?_⟩
      have t12 := t11.trans s17
      have lx : z.length + ("x" : Str).length ≤ sizeLine := Nat.le_trans (show z.length + 1 ≤ 100 by omega) (by decide)
      have lx2 : ("x" : Str).length + z.length ≤ sizeLine := Nat.le_trans (show 1 + z.length ≤ 100 by omega) (by decide)
      have v1 : ∀ H' : Hp, VO H' (.str (z ++ "x")) := fun _ => .str _ (by rw [len_add]; exact Nat.le_trans (show z.length + 1 ≤ 100 by omega) (by decide))
      have v2 : ∀ H' : Hp, VO H' (.str ("x" ++ z)) := fun _ => .str _ (by rw [len_add]; exact Nat.le_trans (show 1 + z.length ≤ 100 by omega) (by decide))
      refine ⟨_, rfl, _, rfl, _, rfl, z, _, rfl, rfl, lx, _, rfl, _, _, rfl, rfl, lx2, by show 2 ≤ sizeLine; decide, fun qc hc => ?_⟩
      have t13 := t12.trans (Same.new (o := .lst [.str (z ++ "x"), .str ("x" ++ z)]) hc)
      refine nil_it <| what_ask (m := 2) (ks := [.str (z ++ "x"), .str ("x" ++ z)]) (vl _) (vh _) upd_same (.inr (.inl rfl)) (two_vo (v1 _) (v2 _)) (what_good (ng _) (res_x z hz)) fun H18 s18 => ⟨rfl, _, rfl, iteF ?_⟩
      refine ⟨_, _, rfl, fun b o e => ?_⟩
      have e1 := q _ _ e
      exact s18 _ _ (Same.new hc _ _ (s17 _ _ (Same.new hb _ _ (s16 _ _ (Same.new ha _ _ e1)))))
    rintro σ' H' ⟨y7, y9, rfl, q⟩
    have t8 := t7.trans q
    refine ⟨_, rfl, _, rfl, _, rfl, _, rfl, kl, _, rfl, SqL.of (t8 _ _ hk), fun qa ha => ?_⟩
    have t9 := t8.trans (Same.new (o := .lst [.str o1, .str o2, .str o3]) ha)
    refine ⟨lo, hi, qa, [o1, o2, o3], rfl, hlo, hhi, hle, upd_same, K123, fun r1 H16 hr1 s16 hF1 => ?_⟩
    obtain ⟨ps1, f1, f2, _⟩ := hF1
    refine ⟨_, _, rfl, .inl ⟨_, SqL.of f1, rfl⟩, rfl, ?_⟩
    have t10 := t9.trans s16
    refine ⟨_, rfl, ?_⟩
    rw [List.length_map, f2]
    refine iteT ⟨_, rfl, _, rfl, kl, _, rfl, SqL.of (t10 _ _ hk), fun qb hb => ?_⟩
    refine ⟨0, 9, qb, [o4], rfl, ⟨by decide, by decide⟩, ⟨by decide, by decide⟩, by decide, upd_same, K4, fun r2 H17 hr2 s17 hF2 => ?_⟩
    obtain ⟨ps2, e1, e2, _⟩ := hF2
    refine ⟨_, _, rfl, .inl ⟨_, SqL.of e1, rfl⟩, rfl, ?_⟩
    rw [List.length_map, e2]
    exact k _
end
end Cs

set_option Elab.async false
set_option linter.all false
set_option maxRecDepth 100000
set_option maxHeartbeats 8000000
namespace Cs
open PySem L2
theorem all_mk {l : PySem.W.OpenLaw} {w : World} {K : PySem.W.Frag} {h : Heap} {mg : Str → Option Value} {fa : Addr} (X : K.In h) (G : h.Ns mainGlobals mg) (hfa : mg "law" = some (.ref fa))
    {f_isint : Addr} {oc_isint kV_isint dc_isint pm_isint cd_isint ct_isint : Value} {od_isint an_isint : Option Addr} {sl_isint : Array (Option Value)}
    {f_isword : Addr} {oc_isword kV_isword dc_isword pm_isword cd_isword ct_isword : Value} {od_isword an_isword : Option Addr} {sl_isword : Array (Option Value)}
    {f_source : Addr} {oc_source kV_source dc_source pm_source cd_source ct_source : Value} {od_source an_source : Option Addr} {sl_source : Array (Option Value)}
    {f_mixed : Addr} {oc_mixed kV_mixed dc_mixed pm_mixed cd_mixed ct_mixed : Value} {od_mixed an_mixed : Option Addr} {sl_mixed : Array (Option Value)}
    {f_draw : Addr} {oc_draw kV_draw dc_draw pm_draw cd_draw ct_draw : Value} {od_draw an_draw : Option Addr} {sl_draw : Array (Option Value)}
    {f_distinct : Addr} {oc_distinct kV_distinct dc_distinct pm_distinct cd_distinct ct_distinct : Value} {od_distinct an_distinct : Option Addr} {sl_distinct : Array (Option Value)}
    {f_iskind : Addr} {oc_iskind kV_iskind dc_iskind pm_iskind cd_iskind ct_iskind : Value} {od_iskind an_iskind : Option Addr} {sl_iskind : Array (Option Value)}
    {f_isbound : Addr} {oc_isbound kV_isbound dc_isbound pm_isbound cd_isbound ct_isbound : Value} {od_isbound an_isbound : Option Addr} {sl_isbound : Array (Option Value)}
    {f_kind : Addr} {oc_kind kV_kind dc_kind pm_kind cd_kind ct_kind : Value} {od_kind an_kind : Option Addr} {sl_kind : Array (Option Value)}
    {f_kinds : Addr} {oc_kinds kV_kinds dc_kinds pm_kinds cd_kinds ct_kinds : Value} {od_kinds an_kinds : Option Addr} {sl_kinds : Array (Option Value)}
    {f_four : Addr} {oc_four kV_four dc_four pm_four cd_four ct_four : Value} {od_four an_four : Option Addr} {sl_four : Array (Option Value)}
    {f_call : Addr} {oc_call kV_call dc_call pm_call cd_call ct_call : Value} {od_call an_call : Option Addr} {sl_call : Array (Option Value)}
    {f_what : Addr} {oc_what kV_what dc_what pm_what cd_what ct_what : Value} {od_what an_what : Option Addr} {sl_what : Array (Option Value)}
    {f_wrongn : Addr} {oc_wrongn kV_wrongn dc_wrongn pm_wrongn cd_wrongn ct_wrongn : Value} {od_wrongn an_wrongn : Option Addr} {sl_wrongn : Array (Option Value)}
    {f_wrongk : Addr} {oc_wrongk kV_wrongk dc_wrongk pm_wrongk cd_wrongk ct_wrongk : Value} {od_wrongk an_wrongk : Option Addr} {sl_wrongk : Array (Option Value)}
    {f_law : Addr} {oc_law kV_law dc_law pm_law cd_law ct_law : Value} {od_law an_law : Option Addr} {sl_law : Array (Option Value)}
    {B ce_B : Addr} {nm_B qn_B : Str} {N_B : Addr} {bs_B : List Value} {sn_B : List Str} {sub_B : List Value} {ab_B : Bool} {col_B : Option Bool} {dd_B : Option Addr} {m0_B m1_B m2_B m3_B m5_B : Option Value}
    {f_xr : Addr} {oc_xr kV_xr dc_xr pm_xr cd_xr ct_xr : Value} {od_xr an_xr : Option Addr} {sl_xr : Array (Option Value)}
    {tk_LET : Tok}
    {cl_R f_iR : Addr} {oc_iR kV_iR dc_iR pm_iR cd_iR ct_iR : Value} {od_iR an_iR : Option Addr} {sl_iR : Array (Option Value)}
    {cl_al f_ial cd_ial cc_ial : Addr} {oc_ial kV_ial dc_ial pm_ial ct_ial cl1_ial cl2_ial : Value} {od_ial an_ial dd1_ial dd2_ial : Option Addr} {sl_ial sl1_ial sl2_ial : Array (Option Value)} {vs_ial : Array Value} {file_ial : Str} {tk_ial : Tok}
    {cl_am f_iam cd_iam cc_iam : Addr} {oc_iam kV_iam dc_iam pm_iam ct_iam cl1_iam cl2_iam : Value} {od_iam an_iam dd1_iam dd2_iam : Option Addr} {sl_iam sl1_iam sl2_iam : Array (Option Value)} {vs_iam : Array Value} {file_iam : Str} {tk_iam : Tok}
    {cl_bt f_ibt cd_ibt cc_ibt : Addr} {oc_ibt kV_ibt dc_ibt pm_ibt ct_ibt cl1_ibt cl2_ibt : Value} {od_ibt an_ibt dd1_ibt dd2_ibt : Option Addr} {sl_ibt sl1_ibt sl2_ibt : Array (Option Value)} {vs_ibt : Array Value} {file_ibt : Str} {tk_ibt : Tok}
    {cl_ex f_iex cd_iex cc_iex : Addr} {oc_iex kV_iex dc_iex pm_iex ct_iex cl1_iex cl2_iex : Value} {od_iex an_iex dd1_iex dd2_iex : Option Addr} {sl_iex sl1_iex sl2_iex : Array (Option Value)} {vs_iex : Array Value} {file_iex : Str} {tk_iex : Tok}
    {rR : Addr} {dd_RES : Option Addr} {n_RES : Nat} {sl_RES : Array (Option Value)} {tr0 tr1 tr2 tr3 tr4 tr5 tr6 tr7 tr8 tr9 tr10 tr11 tr12 tr13 tr14 tr15 : Tok}
    {ce : Addr}
    {cbs : Addr}
    (a_isint : PySem.W.nsIn K mainGlobals "is_integer" = some (some (.ref f_isint)))
    (l_isint : K.lookup f_isint = some ⟨oc_isint, od_isint, .func (PySem.W.fnOf "is_integer" "is_integer" (defArgs s_is_integer) (defBody s_is_integer) (defScope s_is_integer) .none kV_isint dc_isint pm_isint an_isint cd_isint ct_isint), sl_isint⟩)
    (c_isint : PySem.W.codeIn K cd_isint "is_integer" = true)
    (k_isint : PySem.W.keepIn K (.ref f_isint) = true)
    (a_isword : PySem.W.nsIn K mainGlobals "is_word" = some (some (.ref f_isword)))
    (l_isword : K.lookup f_isword = some ⟨oc_isword, od_isword, .func (PySem.W.fnOf "is_word" "is_word" (defArgs s_is_word) (defBody s_is_word) (defScope s_is_word) .none kV_isword dc_isword pm_isword an_isword cd_isword ct_isword), sl_isword⟩)
    (c_isword : PySem.W.codeIn K cd_isword "is_word" = true)
    (k_isword : PySem.W.keepIn K (.ref f_isword) = true)
    (a_source : PySem.W.nsIn K mainGlobals "_law_source" = some (some (.ref f_source)))
    (l_source : K.lookup f_source = some ⟨oc_source, od_source, .func (PySem.W.fnOf "_law_source" "_law_source" (defArgs s_l_source) (defBody s_l_source) (defScope s_l_source) .none kV_source dc_source pm_source an_source cd_source ct_source), sl_source⟩)
    (c_source : PySem.W.codeIn K cd_source "_law_source" = true)
    (k_source : PySem.W.keepIn K (.ref f_source) = true)
    (a_mixed : PySem.W.nsIn K mainGlobals "_law_mixed" = some (some (.ref f_mixed)))
    (l_mixed : K.lookup f_mixed = some ⟨oc_mixed, od_mixed, .func (PySem.W.fnOf "_law_mixed" "_law_mixed" (defArgs s_l_mixed) (defBody s_l_mixed) (defScope s_l_mixed) .none kV_mixed dc_mixed pm_mixed an_mixed cd_mixed ct_mixed), sl_mixed⟩)
    (c_mixed : PySem.W.codeIn K cd_mixed "_law_mixed" = true)
    (k_mixed : PySem.W.keepIn K (.ref f_mixed) = true)
    (a_draw : PySem.W.nsIn K mainGlobals "_law_draw" = some (some (.ref f_draw)))
    (l_draw : K.lookup f_draw = some ⟨oc_draw, od_draw, .func (PySem.W.fnOf "_law_draw" "_law_draw" (defArgs s_l_draw) (defBody s_l_draw) (defScope s_l_draw) .none kV_draw dc_draw pm_draw an_draw cd_draw ct_draw), sl_draw⟩)
    (c_draw : PySem.W.codeIn K cd_draw "_law_draw" = true)
    (k_draw : PySem.W.keepIn K (.ref f_draw) = true)
    (a_distinct : PySem.W.nsIn K mainGlobals "distinct" = some (some (.ref f_distinct)))
    (l_distinct : K.lookup f_distinct = some ⟨oc_distinct, od_distinct, .func (PySem.W.fnOf "distinct" "distinct" (defArgs s_distinct) (defBody s_distinct) (defScope s_distinct) .none kV_distinct dc_distinct pm_distinct an_distinct cd_distinct ct_distinct), sl_distinct⟩)
    (c_distinct : PySem.W.codeIn K cd_distinct "distinct" = true)
    (k_distinct : PySem.W.keepIn K (.ref f_distinct) = true)
    (a_iskind : PySem.W.nsIn K mainGlobals "is_kind" = some (some (.ref f_iskind)))
    (l_iskind : K.lookup f_iskind = some ⟨oc_iskind, od_iskind, .func (PySem.W.fnOf "is_kind" "is_kind" (defArgs s_is_kind) (defBody s_is_kind) (defScope s_is_kind) .none kV_iskind dc_iskind pm_iskind an_iskind cd_iskind ct_iskind), sl_iskind⟩)
    (c_iskind : PySem.W.codeIn K cd_iskind "is_kind" = true)
    (k_iskind : PySem.W.keepIn K (.ref f_iskind) = true)
    (a_isbound : PySem.W.nsIn K mainGlobals "is_bound" = some (some (.ref f_isbound)))
    (l_isbound : K.lookup f_isbound = some ⟨oc_isbound, od_isbound, .func (PySem.W.fnOf "is_bound" "is_bound" (defArgs s_is_bound) (defBody s_is_bound) (defScope s_is_bound) .none kV_isbound dc_isbound pm_isbound an_isbound cd_isbound ct_isbound), sl_isbound⟩)
    (c_isbound : PySem.W.codeIn K cd_isbound "is_bound" = true)
    (k_isbound : PySem.W.keepIn K (.ref f_isbound) = true)
    (a_kind : PySem.W.nsIn K mainGlobals "_law_kind" = some (some (.ref f_kind)))
    (l_kind : K.lookup f_kind = some ⟨oc_kind, od_kind, .func (PySem.W.fnOf "_law_kind" "_law_kind" (defArgs s_l_kind) (defBody s_l_kind) (defScope s_l_kind) .none kV_kind dc_kind pm_kind an_kind cd_kind ct_kind), sl_kind⟩)
    (c_kind : PySem.W.codeIn K cd_kind "_law_kind" = true)
    (k_kind : PySem.W.keepIn K (.ref f_kind) = true)
    (a_kinds : PySem.W.nsIn K mainGlobals "_law_kinds" = some (some (.ref f_kinds)))
    (l_kinds : K.lookup f_kinds = some ⟨oc_kinds, od_kinds, .func (PySem.W.fnOf "_law_kinds" "_law_kinds" (defArgs s_l_kinds) (defBody s_l_kinds) (defScope s_l_kinds) .none kV_kinds dc_kinds pm_kinds an_kinds cd_kinds ct_kinds), sl_kinds⟩)
    (c_kinds : PySem.W.codeIn K cd_kinds "_law_kinds" = true)
    (k_kinds : PySem.W.keepIn K (.ref f_kinds) = true)
    (a_four : PySem.W.nsIn K mainGlobals "_law_four" = some (some (.ref f_four)))
    (l_four : K.lookup f_four = some ⟨oc_four, od_four, .func (PySem.W.fnOf "_law_four" "_law_four" (defArgs s_l_four) (defBody s_l_four) (defScope s_l_four) .none kV_four dc_four pm_four an_four cd_four ct_four), sl_four⟩)
    (c_four : PySem.W.codeIn K cd_four "_law_four" = true)
    (k_four : PySem.W.keepIn K (.ref f_four) = true)
    (a_call : PySem.W.nsIn K mainGlobals "_law_call" = some (some (.ref f_call)))
    (l_call : K.lookup f_call = some ⟨oc_call, od_call, .func (PySem.W.fnOf "_law_call" "_law_call" (defArgs s_l_call) (defBody s_l_call) (defScope s_l_call) .none kV_call dc_call pm_call an_call cd_call ct_call), sl_call⟩)
    (c_call : PySem.W.codeIn K cd_call "_law_call" = true)
    (k_call : PySem.W.keepIn K (.ref f_call) = true)
    (a_what : PySem.W.nsIn K mainGlobals "_law_what" = some (some (.ref f_what)))
    (l_what : K.lookup f_what = some ⟨oc_what, od_what, .func (PySem.W.fnOf "_law_what" "_law_what" (defArgs s_l_what) (defBody s_l_what) (defScope s_l_what) .none kV_what dc_what pm_what an_what cd_what ct_what), sl_what⟩)
    (c_what : PySem.W.codeIn K cd_what "_law_what" = true)
    (k_what : PySem.W.keepIn K (.ref f_what) = true)
    (a_wrongn : PySem.W.nsIn K mainGlobals "_law_wrong_number" = some (some (.ref f_wrongn)))
    (l_wrongn : K.lookup f_wrongn = some ⟨oc_wrongn, od_wrongn, .func (PySem.W.fnOf "_law_wrong_number" "_law_wrong_number" (defArgs s_l_wrong_number) (defBody s_l_wrong_number) (defScope s_l_wrong_number) .none kV_wrongn dc_wrongn pm_wrongn an_wrongn cd_wrongn ct_wrongn), sl_wrongn⟩)
    (c_wrongn : PySem.W.codeIn K cd_wrongn "_law_wrong_number" = true)
    (k_wrongn : PySem.W.keepIn K (.ref f_wrongn) = true)
    (a_wrongk : PySem.W.nsIn K mainGlobals "_law_wrong_kinds" = some (some (.ref f_wrongk)))
    (l_wrongk : K.lookup f_wrongk = some ⟨oc_wrongk, od_wrongk, .func (PySem.W.fnOf "_law_wrong_kinds" "_law_wrong_kinds" (defArgs s_l_wrong_kinds) (defBody s_l_wrong_kinds) (defScope s_l_wrong_kinds) .none kV_wrongk dc_wrongk pm_wrongk an_wrongk cd_wrongk ct_wrongk), sl_wrongk⟩)
    (c_wrongk : PySem.W.codeIn K cd_wrongk "_law_wrong_kinds" = true)
    (k_wrongk : PySem.W.keepIn K (.ref f_wrongk) = true)
    (a_law : PySem.W.nsIn K mainGlobals "law" = some (some (.ref f_law)))
    (l_law : K.lookup f_law = some ⟨oc_law, od_law, .func (PySem.W.fnOf "law" "law" (defArgs s_law) (defBody s_law) (defScope s_law) .none kV_law dc_law pm_law an_law cd_law ct_law), sl_law⟩)
    (c_law : PySem.W.codeIn K cd_law "law" = true)
    (k_law : PySem.W.keepIn K (.ref f_law) = true)
    (a_B : PySem.W.nsIn K mainGlobals "BadRule" = some (some (.ref B)))
    (x_B : K.lookup B = some (excClassObj nm_B qn_B B N_B bs_B [.ref ce_B, .type "ValueError", .type "Exception", .type "BaseException", .type "object"] true sn_B sub_B ab_B col_B dd_B m0_B m1_B m2_B m3_B m5_B "ValueError.__new__"))
    (sa_B : PySem.W.findIn K (.ref B) "__setattr__" = some (some (.builtin "object.__setattr__")))
    (ec_B : PySem.W.subIn K (.ref B) (.type "BaseException") = some true)
    (ty_B : PySem.W.typeIn K (.ref B) = some (.type "type"))
    (kc_B : PySem.W.keepIn K (.ref B) = true)
    (is_B : PySem.W.isClsIn K B = true)
    (ss_B : PySem.W.subIn K (.ref B) (.ref B) = some true)
    (nf_B : PySem.W.findIn K (.ref B) "what" = some none)
    (a_xr : PySem.W.findIn K (.ref B) "__init__" = some (some (.ref f_xr)))
    (t_xr : PySem.W.typeIn K (.ref f_xr) = some (.type "function"))
    (l_xr : K.lookup f_xr = some ⟨oc_xr, od_xr, .func (PySem.W.fnOf "__init__" "BadRule.__init__" (defArgs s_BadRule_init) (defBody s_BadRule_init) (defScope s_BadRule_init) .none kV_xr dc_xr pm_xr an_xr cd_xr ct_xr), sl_xr⟩)
    (c_xr : PySem.W.codeIn K cd_xr "BadRule.__init__" = true)
    (k_xr : PySem.W.keepIn K (.ref f_xr) = true)
    (a_LET : PySem.W.nsIn K mainGlobals "LETTERS" = some (some (.str LET tk_LET)))
    (a_R : PySem.W.nsIn K mainGlobals "Rule" = some (some (.ref cl_R)))
    (is_R : PySem.W.isClsIn K cl_R = true)
    (ty_R : PySem.W.typeIn K (.ref cl_R) = some (.type "type"))
    (ai_R : PySem.W.findIn K (.ref cl_R) "__init__" = some (some (.ref f_iR)))
    (l_iR : K.lookup f_iR = some ⟨oc_iR, od_iR, .func (PySem.W.fnOf "__init__" "Rule.__init__" (defArgs s_Rule_init) (defBody s_Rule_init) (defScope s_Rule_init) .none kV_iR dc_iR pm_iR an_iR cd_iR ct_iR), sl_iR⟩)
    (c_iR : PySem.W.codeIn K cd_iR "Rule.__init__" = true)
    (tf_R : PySem.W.typeIn K (.ref f_iR) = some (.type "function"))
    (fi_R : PySem.W.fnIn K f_iR = true)
    (a_al : PySem.W.nsIn K mainGlobals "AtLeast" = some (some (.ref cl_al)))
    (pg_al : PySem.W.plainGet K cl_al Str.empty = true)
    (hd_al : PySem.W.hasDictIn K cl_al = true)
    (po_al : PySem.W.plainOver K cl_al = true)
    (sa_al : PySem.W.findIn K (.ref cl_al) "__setattr__" = some (some (.builtin "object.__setattr__")))
    (mk_al : PySem.W.makesIn K cl_al = true)
    (kc_al : PySem.W.keepIn K (.ref cl_al) = true)
    (nk_al : PySem.W.findIn K (.ref cl_al) "kinds" = some none)
    (nl_al : PySem.W.findIn K (.ref cl_al) "least" = some none)
    (nm_al : PySem.W.findIn K (.ref cl_al) "most" = some none)
    (ca_al : PySem.W.findIn K (.ref cl_al) "__class__" = some (some (.builtin "object.__class__")))
    (cm_al : PySem.W.mroIn K cl_al (.type "object") = some true)
    (is_al : PySem.W.isClsIn K cl_al = true)
    (ty_al : PySem.W.typeIn K (.ref cl_al) = some (.type "type"))
    (ai_al : PySem.W.findIn K (.ref cl_al) "__init__" = some (some (.ref f_ial)))
    (if_al : PySem.W.isFn K (.ref f_ial) = true)
    (l_ial : K.lookup f_ial = some ⟨oc_ial, od_ial, .func (PySem.W.ksFn "__init__" "AtLeast.__init__" (defArgs s_AtLeast_init) (defBody s_AtLeast_init) (defScope s_AtLeast_init) .none kV_ial dc_ial pm_ial an_ial (.ref cd_ial) ct_ial cc_ial), sl_ial⟩)
    (c_ial : PySem.W.codeIn K (.ref cd_ial) "AtLeast.__init__" = true)
    (e_ial : K.lookup cc_ial = some ⟨cl1_ial, dd1_ial, .cell (some (.ref cl_al)), sl1_ial⟩)
    (o_ial : K.lookup cd_ial = some ⟨cl2_ial, dd2_ial, .fields vs_ial, sl2_ial⟩)
    (v_ial : vs_ial[2]? = some (.str file_ial tk_ial))
    (p_ial : ((l.prog.main.file : Str) == file_ial) = true)
    (tf_al : PySem.W.typeIn K (.ref f_ial) = some (.type "function"))
    (fi_al : PySem.W.fnIn K f_ial = true)
    (a_am : PySem.W.nsIn K mainGlobals "AtMost" = some (some (.ref cl_am)))
    (pg_am : PySem.W.plainGet K cl_am Str.empty = true)
    (hd_am : PySem.W.hasDictIn K cl_am = true)
    (po_am : PySem.W.plainOver K cl_am = true)
    (sa_am : PySem.W.findIn K (.ref cl_am) "__setattr__" = some (some (.builtin "object.__setattr__")))
    (mk_am : PySem.W.makesIn K cl_am = true)
    (kc_am : PySem.W.keepIn K (.ref cl_am) = true)
    (nk_am : PySem.W.findIn K (.ref cl_am) "kinds" = some none)
    (nl_am : PySem.W.findIn K (.ref cl_am) "least" = some none)
    (nm_am : PySem.W.findIn K (.ref cl_am) "most" = some none)
    (ca_am : PySem.W.findIn K (.ref cl_am) "__class__" = some (some (.builtin "object.__class__")))
    (cm_am : PySem.W.mroIn K cl_am (.type "object") = some true)
    (is_am : PySem.W.isClsIn K cl_am = true)
    (ty_am : PySem.W.typeIn K (.ref cl_am) = some (.type "type"))
    (ai_am : PySem.W.findIn K (.ref cl_am) "__init__" = some (some (.ref f_iam)))
    (if_am : PySem.W.isFn K (.ref f_iam) = true)
    (l_iam : K.lookup f_iam = some ⟨oc_iam, od_iam, .func (PySem.W.ksFn "__init__" "AtMost.__init__" (defArgs s_AtMost_init) (defBody s_AtMost_init) (defScope s_AtMost_init) .none kV_iam dc_iam pm_iam an_iam (.ref cd_iam) ct_iam cc_iam), sl_iam⟩)
    (c_iam : PySem.W.codeIn K (.ref cd_iam) "AtMost.__init__" = true)
    (e_iam : K.lookup cc_iam = some ⟨cl1_iam, dd1_iam, .cell (some (.ref cl_am)), sl1_iam⟩)
    (o_iam : K.lookup cd_iam = some ⟨cl2_iam, dd2_iam, .fields vs_iam, sl2_iam⟩)
    (v_iam : vs_iam[2]? = some (.str file_iam tk_iam))
    (p_iam : ((l.prog.main.file : Str) == file_iam) = true)
    (tf_am : PySem.W.typeIn K (.ref f_iam) = some (.type "function"))
    (fi_am : PySem.W.fnIn K f_iam = true)
    (a_bt : PySem.W.nsIn K mainGlobals "Between" = some (some (.ref cl_bt)))
    (pg_bt : PySem.W.plainGet K cl_bt Str.empty = true)
    (hd_bt : PySem.W.hasDictIn K cl_bt = true)
    (po_bt : PySem.W.plainOver K cl_bt = true)
    (sa_bt : PySem.W.findIn K (.ref cl_bt) "__setattr__" = some (some (.builtin "object.__setattr__")))
    (mk_bt : PySem.W.makesIn K cl_bt = true)
    (kc_bt : PySem.W.keepIn K (.ref cl_bt) = true)
    (nk_bt : PySem.W.findIn K (.ref cl_bt) "kinds" = some none)
    (nl_bt : PySem.W.findIn K (.ref cl_bt) "least" = some none)
    (nm_bt : PySem.W.findIn K (.ref cl_bt) "most" = some none)
    (ca_bt : PySem.W.findIn K (.ref cl_bt) "__class__" = some (some (.builtin "object.__class__")))
    (cm_bt : PySem.W.mroIn K cl_bt (.type "object") = some true)
    (is_bt : PySem.W.isClsIn K cl_bt = true)
    (ty_bt : PySem.W.typeIn K (.ref cl_bt) = some (.type "type"))
    (ai_bt : PySem.W.findIn K (.ref cl_bt) "__init__" = some (some (.ref f_ibt)))
    (if_bt : PySem.W.isFn K (.ref f_ibt) = true)
    (l_ibt : K.lookup f_ibt = some ⟨oc_ibt, od_ibt, .func (PySem.W.ksFn "__init__" "Between.__init__" (defArgs s_Between_init) (defBody s_Between_init) (defScope s_Between_init) .none kV_ibt dc_ibt pm_ibt an_ibt (.ref cd_ibt) ct_ibt cc_ibt), sl_ibt⟩)
    (c_ibt : PySem.W.codeIn K (.ref cd_ibt) "Between.__init__" = true)
    (e_ibt : K.lookup cc_ibt = some ⟨cl1_ibt, dd1_ibt, .cell (some (.ref cl_bt)), sl1_ibt⟩)
    (o_ibt : K.lookup cd_ibt = some ⟨cl2_ibt, dd2_ibt, .fields vs_ibt, sl2_ibt⟩)
    (v_ibt : vs_ibt[2]? = some (.str file_ibt tk_ibt))
    (p_ibt : ((l.prog.main.file : Str) == file_ibt) = true)
    (tf_bt : PySem.W.typeIn K (.ref f_ibt) = some (.type "function"))
    (fi_bt : PySem.W.fnIn K f_ibt = true)
    (a_ex : PySem.W.nsIn K mainGlobals "Exactly" = some (some (.ref cl_ex)))
    (pg_ex : PySem.W.plainGet K cl_ex Str.empty = true)
    (hd_ex : PySem.W.hasDictIn K cl_ex = true)
    (po_ex : PySem.W.plainOver K cl_ex = true)
    (sa_ex : PySem.W.findIn K (.ref cl_ex) "__setattr__" = some (some (.builtin "object.__setattr__")))
    (mk_ex : PySem.W.makesIn K cl_ex = true)
    (kc_ex : PySem.W.keepIn K (.ref cl_ex) = true)
    (nk_ex : PySem.W.findIn K (.ref cl_ex) "kinds" = some none)
    (nl_ex : PySem.W.findIn K (.ref cl_ex) "least" = some none)
    (nm_ex : PySem.W.findIn K (.ref cl_ex) "most" = some none)
    (ca_ex : PySem.W.findIn K (.ref cl_ex) "__class__" = some (some (.builtin "object.__class__")))
    (cm_ex : PySem.W.mroIn K cl_ex (.type "object") = some true)
    (is_ex : PySem.W.isClsIn K cl_ex = true)
    (ty_ex : PySem.W.typeIn K (.ref cl_ex) = some (.type "type"))
    (ai_ex : PySem.W.findIn K (.ref cl_ex) "__init__" = some (some (.ref f_iex)))
    (if_ex : PySem.W.isFn K (.ref f_iex) = true)
    (l_iex : K.lookup f_iex = some ⟨oc_iex, od_iex, .func (PySem.W.ksFn "__init__" "Exactly.__init__" (defArgs s_Exactly_init) (defBody s_Exactly_init) (defScope s_Exactly_init) .none kV_iex dc_iex pm_iex an_iex (.ref cd_iex) ct_iex cc_iex), sl_iex⟩)
    (c_iex : PySem.W.codeIn K (.ref cd_iex) "Exactly.__init__" = true)
    (e_iex : K.lookup cc_iex = some ⟨cl1_iex, dd1_iex, .cell (some (.ref cl_ex)), sl1_iex⟩)
    (o_iex : K.lookup cd_iex = some ⟨cl2_iex, dd2_iex, .fields vs_iex, sl2_iex⟩)
    (v_iex : vs_iex[2]? = some (.str file_iex tk_iex))
    (p_iex : ((l.prog.main.file : Str) == file_iex) = true)
    (tf_ex : PySem.W.typeIn K (.ref f_iex) = some (.type "function"))
    (fi_ex : PySem.W.fnIn K f_iex = true)
    (ch_R : PySem.W.specialIn K (.builtin "object.__class__") "__get__" = some (some (.builtin "getset_descriptor.__get__")))
    (ct_R : PySem.W.takesIn K (.builtin "object.__class__") = some true)
    (sR_al : PySem.W.subIn K (.ref cl_al) (.ref cl_R) = some true)
    (s_al_am : PySem.W.subIn K (.ref cl_al) (.ref cl_am) = some false)
    (ne_al_am : cl_al ≠ cl_am)
    (s_al_bt : PySem.W.subIn K (.ref cl_al) (.ref cl_bt) = some false)
    (ne_al_bt : cl_al ≠ cl_bt)
    (s_al_ex : PySem.W.subIn K (.ref cl_al) (.ref cl_ex) = some false)
    (ne_al_ex : cl_al ≠ cl_ex)
    (sR_am : PySem.W.subIn K (.ref cl_am) (.ref cl_R) = some true)
    (s_am_al : PySem.W.subIn K (.ref cl_am) (.ref cl_al) = some false)
    (ne_am_al : cl_am ≠ cl_al)
    (s_am_bt : PySem.W.subIn K (.ref cl_am) (.ref cl_bt) = some false)
    (ne_am_bt : cl_am ≠ cl_bt)
    (s_am_ex : PySem.W.subIn K (.ref cl_am) (.ref cl_ex) = some false)
    (ne_am_ex : cl_am ≠ cl_ex)
    (sR_bt : PySem.W.subIn K (.ref cl_bt) (.ref cl_R) = some true)
    (s_bt_al : PySem.W.subIn K (.ref cl_bt) (.ref cl_al) = some true)
    (ne_bt_al : cl_bt ≠ cl_al)
    (s_bt_am : PySem.W.subIn K (.ref cl_bt) (.ref cl_am) = some true)
    (ne_bt_am : cl_bt ≠ cl_am)
    (s_bt_ex : PySem.W.subIn K (.ref cl_bt) (.ref cl_ex) = some false)
    (ne_bt_ex : cl_bt ≠ cl_ex)
    (sR_ex : PySem.W.subIn K (.ref cl_ex) (.ref cl_R) = some true)
    (s_ex_al : PySem.W.subIn K (.ref cl_ex) (.ref cl_al) = some true)
    (ne_ex_al : cl_ex ≠ cl_al)
    (s_ex_am : PySem.W.subIn K (.ref cl_ex) (.ref cl_am) = some true)
    (ne_ex_am : cl_ex ≠ cl_am)
    (s_ex_bt : PySem.W.subIn K (.ref cl_ex) (.ref cl_bt) = some true)
    (ne_ex_bt : cl_ex ≠ cl_bt)
    (m_al_al : PySem.W.mroIn K cl_al (.ref cl_al) = some true)
    (u_al_al : PySem.W.ks_superIn K cl_al cl_al "__init__" = some (some (.ref f_iR)))
    (m_am_am : PySem.W.mroIn K cl_am (.ref cl_am) = some true)
    (u_am_am : PySem.W.ks_superIn K cl_am cl_am "__init__" = some (some (.ref f_iR)))
    (m_bt_bt : PySem.W.mroIn K cl_bt (.ref cl_bt) = some true)
    (u_bt_bt : PySem.W.ks_superIn K cl_bt cl_bt "__init__" = some (some (.ref f_ial)))
    (m_bt_al : PySem.W.mroIn K cl_bt (.ref cl_al) = some true)
    (u_bt_al : PySem.W.ks_superIn K cl_bt cl_al "__init__" = some (some (.ref f_iam)))
    (m_bt_am : PySem.W.mroIn K cl_bt (.ref cl_am) = some true)
    (u_bt_am : PySem.W.ks_superIn K cl_bt cl_am "__init__" = some (some (.ref f_iR)))
    (m_ex_ex : PySem.W.mroIn K cl_ex (.ref cl_ex) = some true)
    (u_ex_ex : PySem.W.ks_superIn K cl_ex cl_ex "__init__" = some (some (.ref f_ibt)))
    (m_ex_bt : PySem.W.mroIn K cl_ex (.ref cl_bt) = some true)
    (u_ex_bt : PySem.W.ks_superIn K cl_ex cl_bt "__init__" = some (some (.ref f_ial)))
    (m_ex_al : PySem.W.mroIn K cl_ex (.ref cl_al) = some true)
    (u_ex_al : PySem.W.ks_superIn K cl_ex cl_al "__init__" = some (some (.ref f_iam)))
    (m_ex_am : PySem.W.mroIn K cl_ex (.ref cl_am) = some true)
    (u_ex_am : PySem.W.ks_superIn K cl_ex cl_am "__init__" = some (some (.ref f_iR)))
    (sg_top : (l.prog.main.scope.names.lookup ("super" : Str)).isSome = false)
    (z_super : PySem.W.nsIn K mainGlobals "super" = some none)
    (sg_opq : PySem.W.nsIn K cStatics "thirdparty.any" = some none)
    (a_RES : PySem.W.nsIn K mainGlobals "RESERVED" = some (some (.ref rR)))
    (t_RES : K.lookup rR = some ⟨.type "tuple", dd_RES, .seq #[.str ("hold" : Str) tr0, .str ("look" : Str) tr1, .str ("do" : Str) tr2, .str ("row" : Str) tr3, .str ("one" : Str) tr4, .str ("all" : Str) tr5, .str ("new" : Str) tr6, .str ("give" : Str) tr7, .str ("take" : Str) tr8, .str ("join" : Str) tr9, .str ("other" : Str) tr10, .str ("if" : Str) tr11, .str ("and" : Str) tr12, .str ("or" : Str) tr13, .str ("then" : Str) tr14, .str ("gone" : Str) tr15] n_RES, sl_RES⟩)
    (hg_B : PySem.W.findIn K (.ref B) "__getattribute__" = some (some (.builtin "BaseException.__getattribute__")))
    (hk_B : PySem.W.findIn K (.ref B) "__getattr__" = some none)
    (hd_B : PySem.W.hasDictIn K B = true)
    (ca_B : PySem.W.findIn K (.ref B) "__class__" = some (some (.builtin "object.__class__")))
    (cm_B : PySem.W.mroIn K B (.type "object") = some true)
    (a_ce : PySem.W.nsIn K mainGlobals "CountsheldError" = some (some (.ref ce)))
    (is_ce : PySem.W.isClsIn K ce = true)
    (ty_ce : PySem.W.typeIn K (.ref ce) = some (.type "type"))
    (s_B_ce : PySem.W.subIn K (.ref B) (.ref ce) = some true)
    (a_cbs : PySem.W.nsIn K mainGlobals "BadRules" = some (some (.ref cbs)))
    (is_cbs : PySem.W.isClsIn K cbs = true)
    (ty_cbs : PySem.W.typeIn K (.ref cbs) = some (.type "type"))
    (s_B_cbs : PySem.W.subIn K (.ref B) (.ref cbs) = some false)
    (ne_B_cbs : B ≠ cbs)
    (z_len : PySem.W.nsIn K mainGlobals "len" = some none)
    (z_int : PySem.W.nsIn K mainGlobals "int" = some none)
    (z_abs : PySem.W.nsIn K mainGlobals "abs" = some none)
    (z_list : PySem.W.nsIn K mainGlobals "list" = some none)
    (z_range : PySem.W.nsIn K mainGlobals "range" = some none)
    (z_sorted : PySem.W.nsIn K mainGlobals "sorted" = some none)
    (z_str : PySem.W.nsIn K mainGlobals "str" = some none)
    (z_isinstance : PySem.W.nsIn K mainGlobals "isinstance" = some none)
    (z_sum : PySem.W.nsIn K mainGlobals "sum" = some none)
    (z_tuple : PySem.W.nsIn K mainGlobals "tuple" = some none)
    (z_dict : PySem.W.nsIn K mainGlobals "dict" = some none)
    (z_all : PySem.W.nsIn K mainGlobals "all" = some none)
    (z_bool : PySem.W.nsIn K mainGlobals "bool" = some none)
    (z_enumerate : PySem.W.nsIn K mainGlobals "enumerate" = some none)
    : ∃ fd : FuncData, (∀ (s : Shared) (v : Value), BindsTo s fd ⟨[v], []⟩ [("_law_script", v)]) ∧ ∀ base : Heap, K.In base → base.Ns mainGlobals mg → FnOk l.prog w K mg base CX0 11 fa fd ["_law_script"] (spLawR K) := by
  have e := hfa.symm.trans (PySem.W.mg_of X G a_law)
  cases e
  have g : Bi mg := ⟨PySem.W.mg_none_of X G z_len, PySem.W.mg_none_of X G z_int, PySem.W.mg_none_of X G z_abs, PySem.W.mg_none_of X G z_list, PySem.W.mg_none_of X G z_range, PySem.W.mg_none_of X G z_sorted, PySem.W.mg_none_of X G z_str, PySem.W.mg_none_of X G z_isinstance, PySem.W.mg_none_of X G z_sum, PySem.W.mg_none_of X G z_tuple, PySem.W.mg_none_of X G z_dict, PySem.W.mg_none_of X G z_all, PySem.W.mg_none_of X G z_bool, PySem.W.mg_none_of X G z_enumerate⟩
  have F_isint := fun_mk (st := s_is_integer) l_isint c_isint k_isint
  have b_isint := F_isint.binds (ps := ["thing"]) fun _ _ _ _ _ _ us hl => match us, hl with | [_], _ => rfl
  have F_isword := fun_mk (st := s_is_word) l_isword c_isword k_isword
  have b_isword := F_isword.binds (ps := ["thing"]) fun _ _ _ _ _ _ us hl => match us, hl with | [_], _ => rfl
  have F_source := fun_mk (st := s_l_source) l_source c_source k_source
  have b_source := F_source.binds (ps := ["_law_script"]) fun _ _ _ _ _ _ us hl => match us, hl with | [_], _ => rfl
  have F_mixed := fun_mk (st := s_l_mixed) l_mixed c_mixed k_mixed
  have b_mixed := F_mixed.binds (ps := ["_law_cell", "_law_count"]) fun _ _ _ _ _ _ us hl => match us, hl with | [_, _], _ => rfl
  have F_draw := fun_mk (st := s_l_draw) l_draw c_draw k_draw
  have b_draw := F_draw.binds (ps := ["_law_source_here", "_law_size"]) fun _ _ _ _ _ _ us hl => match us, hl with | [_, _], _ => rfl
  have F_distinct := fun_mk (st := s_distinct) l_distinct c_distinct k_distinct
  have b_distinct := F_distinct.binds (ps := ["words"]) fun _ _ _ _ _ _ us hl => match us, hl with | [_], _ => rfl
  have F_iskind := fun_mk (st := s_is_kind) l_iskind c_iskind k_iskind
  have b_iskind := F_iskind.binds (ps := ["thing"]) fun _ _ _ _ _ _ us hl => match us, hl with | [_], _ => rfl
  have F_isbound := fun_mk (st := s_is_bound) l_isbound c_isbound k_isbound
  have b_isbound := F_isbound.binds (ps := ["thing"]) fun _ _ _ _ _ _ us hl => match us, hl with | [_], _ => rfl
  have F_kind := fun_mk (st := s_l_kind) l_kind c_kind k_kind
  have b_kind := F_kind.binds (ps := ["_law_source_here", "_law_taken"]) fun _ _ _ _ _ _ us hl => match us, hl with | [_, _], _ => rfl
  have F_kinds := fun_mk (st := s_l_kinds) l_kinds c_kinds k_kinds
  have b_kinds := F_kinds.binds (ps := ["_law_source_here", "_law_many"]) fun _ _ _ _ _ _ us hl => match us, hl with | [_, _], _ => rfl
  have F_four := fun_mk (st := s_l_four) l_four c_four k_four
  have b_four := F_four.binds (ps := ["_law_low", "_law_high", "_law_kinds_here"]) fun _ _ _ _ _ _ us hl => match us, hl with | [_, _, _], _ => rfl
  have F_call := fun_mk (st := s_l_call) l_call c_call k_call
  have b_call := F_call.binds (ps := ["_law_mode", "_law_low", "_law_high", "_law_kinds_here"]) fun _ _ _ _ _ _ us hl => match us, hl with | [_, _, _, _], _ => rfl
  have F_what := fun_mk (st := s_l_what) l_what c_what k_what
  have b_what := F_what.binds (ps := ["_law_mode", "_law_low", "_law_high", "_law_kinds_here"]) fun _ _ _ _ _ _ us hl => match us, hl with | [_, _, _, _], _ => rfl
  have F_wrongn := fun_mk (st := s_l_wrong_number) l_wrongn c_wrongn k_wrongn
  have b_wrongn := F_wrongn.binds (ps := ["_law_choice"]) fun _ _ _ _ _ _ us hl => match us, hl with | [_], _ => rfl
  have F_wrongk := fun_mk (st := s_l_wrong_kinds) l_wrongk c_wrongk k_wrongk
  have b_wrongk := F_wrongk.binds (ps := ["_law_choice", "_law_kinds_here"]) fun _ _ _ _ _ _ us hl => match us, hl with | [_, _], _ => rfl
  have F_law := fun_mk (st := s_law) l_law c_law k_law
  have b_law := F_law.binds (ps := ["_law_script"]) fun _ _ _ _ _ _ us hl => match us, hl with | [_], _ => rfl
  have F_xr := fun_mk (st := s_BadRule_init) l_xr c_xr k_xr
  have b_xr := F_xr.binds (ps := ["self", "what"]) fun _ _ _ _ _ _ us hl => match us, hl with | [_, _], _ => rfl
  refine ⟨PySem.W.fnOf "law" "law" (defArgs s_law) (defBody s_law) (defScope s_law) .none kV_law dc_law pm_law an_law cd_law ct_law, fun s v => .of_eq rfl, fun base _ _ => ?_⟩
  have M := fun {x : Str} {v : Value} (a : PySem.W.nsIn K mainGlobals x = some (some v)) => PySem.W.mg_of X G a
  have FII : Def l.prog w K mg base CX0 1 "is_integer" ["thing"] (spIsInteger K) f_isint _ := ⟨ok_is_integer F_isint g, M a_isint, k_isint, b_isint⟩
  have FIW : Def l.prog w K mg base CX0 1 "is_word" ["thing"] (spIsWord K) f_isword _ := ⟨ok_is_word F_isword g (M a_LET), M a_isword, k_isword, b_isword⟩
  have FSO : Def l.prog w K mg base CX0 1 "_law_source" ["_law_script"] (spSource K) f_source _ := ⟨ok_source F_source g, M a_source, k_source, b_source⟩
  have FDR : Def l.prog w K mg base CX0 2 "_law_draw" ["_law_source_here", "_law_size"] spDraw f_draw _ := ⟨ok_draw F_draw g F_mixed (M a_mixed) b_mixed, M a_draw, k_draw, b_draw⟩
  have hRES : ResAt K rR := fun H => .inr ⟨_, _, _, t_RES, rfl, rfl, by show 16 ≤ sizeLine; decide, .cons ⟨tr0, rfl⟩ (.cons ⟨tr1, rfl⟩ (.cons ⟨tr2, rfl⟩ (.cons ⟨tr3, rfl⟩ (.cons ⟨tr4, rfl⟩ (.cons ⟨tr5, rfl⟩ (.cons ⟨tr6, rfl⟩ (.cons ⟨tr7, rfl⟩ (.cons ⟨tr8, rfl⟩ (.cons ⟨tr9, rfl⟩ (.cons ⟨tr10, rfl⟩ (.cons ⟨tr11, rfl⟩ (.cons ⟨tr12, rfl⟩ (.cons ⟨tr13, rfl⟩ (.cons ⟨tr14, rfl⟩ (.cons ⟨tr15, rfl⟩ (.nil))))))))))))))))⟩
  have FIK : Def l.prog w K mg base CX0 2 "is_kind" ["thing"] (spIsKind K) f_iskind _ := ⟨ok_is_kind F_iskind g FIW (M a_RES) hRES, M a_iskind, k_iskind, b_iskind⟩
  have FIB : Def l.prog w K mg base CX0 2 "is_bound" ["thing"] (spIsBound K) f_isbound _ := ⟨ok_is_bound F_isbound g FII, M a_isbound, k_isbound, b_isbound⟩
  have FDT : Def l.prog w K mg base CX0 1 "distinct" ["words"] (spDistinctT K) f_distinct _ := ⟨ok_distinctT F_distinct g, M a_distinct, k_distinct, b_distinct⟩
  have SG : SupG l.prog K mg := ⟨sg_top, PySem.W.mg_none_of X G z_super, sg_opq⟩
  have clal : Cls K cl_al := ⟨pg_al, hd_al, po_al, sa_al⟩
  have rcal : RC K cl_al := ⟨clal, nk_al, nl_al, nm_al⟩
  have fsal : FunS K "__init__" "AtLeast.__init__" s_AtLeast_init f_ial cd_ial cc_ial cl_al _ _ _ _ _ := ⟨⟨_, _, _, l_ial⟩, c_ial, ⟨_, _, _, e_ial⟩⟩
  have sdal : SupD l.prog K cd_ial cl_al := ⟨⟨_, _, _, _, _, _, o_ial, v_ial, p_ial⟩, is_al⟩
  have rual := ok_rule (P := l.prog) (w := w) (mg := mg) (base := base) (C := cl_al) g rcal FIK FDT l_iR c_iR
  have clam : Cls K cl_am := ⟨pg_am, hd_am, po_am, sa_am⟩
  have rcam : RC K cl_am := ⟨clam, nk_am, nl_am, nm_am⟩
  have fsam : FunS K "__init__" "AtMost.__init__" s_AtMost_init f_iam cd_iam cc_iam cl_am _ _ _ _ _ := ⟨⟨_, _, _, l_iam⟩, c_iam, ⟨_, _, _, e_iam⟩⟩
  have sdam : SupD l.prog K cd_iam cl_am := ⟨⟨_, _, _, _, _, _, o_iam, v_iam, p_iam⟩, is_am⟩
  have ruam := ok_rule (P := l.prog) (w := w) (mg := mg) (base := base) (C := cl_am) g rcam FIK FDT l_iR c_iR
  have clbt : Cls K cl_bt := ⟨pg_bt, hd_bt, po_bt, sa_bt⟩
  have rcbt : RC K cl_bt := ⟨clbt, nk_bt, nl_bt, nm_bt⟩
  have fsbt : FunS K "__init__" "Between.__init__" s_Between_init f_ibt cd_ibt cc_ibt cl_bt _ _ _ _ _ := ⟨⟨_, _, _, l_ibt⟩, c_ibt, ⟨_, _, _, e_ibt⟩⟩
  have sdbt : SupD l.prog K cd_ibt cl_bt := ⟨⟨_, _, _, _, _, _, o_ibt, v_ibt, p_ibt⟩, is_bt⟩
  have rubt := ok_rule (P := l.prog) (w := w) (mg := mg) (base := base) (C := cl_bt) g rcbt FIK FDT l_iR c_iR
  have clex : Cls K cl_ex := ⟨pg_ex, hd_ex, po_ex, sa_ex⟩
  have rcex : RC K cl_ex := ⟨clex, nk_ex, nl_ex, nm_ex⟩
  have fsex : FunS K "__init__" "Exactly.__init__" s_Exactly_init f_iex cd_iex cc_iex cl_ex _ _ _ _ _ := ⟨⟨_, _, _, l_iex⟩, c_iex, ⟨_, _, _, e_iex⟩⟩
  have sdex : SupD l.prog K cd_iex cl_ex := ⟨⟨_, _, _, _, _, _, o_iex, v_iex, p_iex⟩, is_ex⟩
  have ruex := ok_rule (P := l.prog) (w := w) (mg := mg) (base := base) (C := cl_ex) g rcex FIK FDT l_iR c_iR
  have NAL := ok_atleast1 g rcal FIB fsal SG sdal ⟨m_al_al, u_al_al, tf_R, fi_R⟩ rual
  have NAM := ok_atmost g rcam FIB fsam SG sdam ⟨m_am_am, u_am_am, tf_R, fi_R⟩ ruam
  have Nbt1 := ok_atmost g rcbt FIB fsam SG sdam ⟨m_bt_am, u_bt_am, tf_R, fi_R⟩ rubt
  have Nbt2 := ok_atleast2 g rcbt FIB fsal SG sdal ⟨m_bt_al, u_bt_al, tf_am, fi_am⟩ Nbt1
  have Nbt3 := ok_between g rcbt FIB fsbt SG sdbt ⟨m_bt_bt, u_bt_bt, tf_al, fi_al⟩ Nbt2
  have Nex1 := ok_atmost g rcex FIB fsam SG sdam ⟨m_ex_am, u_ex_am, tf_R, fi_R⟩ ruex
  have Nex2 := ok_atleast2 g rcex FIB fsal SG sdal ⟨m_ex_al, u_ex_al, tf_am, fi_am⟩ Nex1
  have Nex3 := ok_between g rcex FIB fsbt SG sdbt ⟨m_ex_bt, u_ex_bt, tf_al, fi_al⟩ Nex2
  have Nex4 := ok_exactly g fsex SG sdex ⟨m_ex_ex, u_ex_ex, tf_bt, fi_bt⟩ Nex3
  have WO : RWo K mg ⟨cl_R, cl_al, cl_am, cl_bt, cl_ex⟩ := ⟨M a_R, M a_al, M a_am, M a_bt, M a_ex, fun c => by cases c <;> assumption, fun c => by cases c; exact ⟨clal, ca_al, ch_R, ct_R, cm_al⟩; exact ⟨clam, ca_am, ch_R, ct_R, cm_am⟩; exact ⟨clbt, ca_bt, ch_R, ct_R, cm_bt⟩; exact ⟨clex, ca_ex, ch_R, ct_R, cm_ex⟩, fun c => by cases c; exact kitR_yes is_R ty_R sR_al; exact kitR_yes is_R ty_R sR_am; exact kitR_yes is_R ty_R sR_bt; exact kitR_yes is_R ty_R sR_ex, fun c d => by cases c <;> cases d; exact kitR_self; exact kitR_no is_am ty_am s_al_am ne_al_am; exact kitR_no is_bt ty_bt s_al_bt ne_al_bt; exact kitR_no is_ex ty_ex s_al_ex ne_al_ex; exact kitR_no is_al ty_al s_am_al ne_am_al; exact kitR_self; exact kitR_no is_bt ty_bt s_am_bt ne_am_bt; exact kitR_no is_ex ty_ex s_am_ex ne_am_ex; exact kitR_yes is_al ty_al s_bt_al; exact kitR_yes is_am ty_am s_bt_am; exact kitR_self; exact kitR_no is_ex ty_ex s_bt_ex ne_bt_ex; exact kitR_yes is_al ty_al s_ex_al; exact kitR_yes is_am ty_am s_ex_am; exact kitR_yes is_bt ty_bt s_ex_bt; exact kitR_self⟩
  have WM : RMk l.prog w K mg base ⟨cl_R, cl_al, cl_am, cl_bt, cl_ex⟩ := ⟨WO, ⟨_, ⟨mk_al, ai_al, if_al, kc_al⟩, FnR.up (FnR.less NAL (by decide)) (by decide)⟩, ⟨_, ⟨mk_am, ai_am, if_am, kc_am⟩, FnR.up (FnR.less NAM (by decide)) (by decide)⟩, ⟨_, ⟨mk_bt, ai_bt, if_bt, kc_bt⟩, FnR.up Nbt3 (by decide)⟩, ⟨_, ⟨mk_ex, ai_ex, if_ex, kc_ex⟩, Nex4⟩⟩
  have OB : OexC K B := ⟨⟨_, _, _, _, _, _, _, _, _, _, _, _, _, _, _, x_B, rfl⟩, sa_B, ec_B, ty_B, kc_B⟩
  have XB : XDef l.prog w K mg base "BadRule" B f_xr "what" ["self", "what"] _ := ⟨OB, a_xr, t_xr, ok_xrule F_xr OB nf_B, b_xr, M a_B, exm_self ec_B is_B ty_B ss_B⟩
  have EC_B : ExcC K B := ⟨hg_B, hk_B, ec_B, hd_B, ca_B, ch_R, ct_R, cm_B⟩
  have XF_B : XfC K B := ⟨hg_B, hk_B, ec_B, hd_B⟩
  have rxal := ok_ruleX (P := l.prog) (w := w) (mg := mg) (base := base) (C := cl_al) g rcal FIK FDT XB l_iR c_iR
  have rxam := ok_ruleX (P := l.prog) (w := w) (mg := mg) (base := base) (C := cl_am) g rcam FIK FDT XB l_iR c_iR
  have rxbt := ok_ruleX (P := l.prog) (w := w) (mg := mg) (base := base) (C := cl_bt) g rcbt FIK FDT XB l_iR c_iR
  have rxex := ok_ruleX (P := l.prog) (w := w) (mg := mg) (base := base) (C := cl_ex) g rcex FIK FDT XB l_iR c_iR
  have XAL := ok_atleast1X g rcal FIB XB fsal SG sdal ⟨m_al_al, u_al_al, tf_R, fi_R⟩ rxal
  have XAM := ok_atmostX g rcam FIB XB fsam SG sdam ⟨m_am_am, u_am_am, tf_R, fi_R⟩ rxam
  have Xbt1 := ok_atmostX g rcbt FIB XB fsam SG sdam ⟨m_bt_am, u_bt_am, tf_R, fi_R⟩ rxbt
  have Xbt2 := ok_atleast2X g rcbt FIB XB fsal SG sdal ⟨m_bt_al, u_bt_al, tf_am, fi_am⟩ Xbt1
  have Xbt3 := ok_betweenX g rcbt FIB XB fsbt SG sdbt ⟨m_bt_bt, u_bt_bt, tf_al, fi_al⟩ Xbt2
  have Xex1 := ok_atmostX g rcex FIB XB fsam SG sdam ⟨m_ex_am, u_ex_am, tf_R, fi_R⟩ rxex
  have Xex2 := ok_atleast2X g rcex FIB XB fsal SG sdal ⟨m_ex_al, u_ex_al, tf_am, fi_am⟩ Xex1
  have Xex3 := ok_betweenX g rcex FIB XB fsbt SG sdbt ⟨m_ex_bt, u_ex_bt, tf_al, fi_al⟩ Xex2
  have Xex4 := ok_exactlyX g rcex fsex SG sdex ⟨m_ex_ex, u_ex_ex, tf_bt, fi_bt⟩ Xex3
  have WX : RMx l.prog w K mg base ⟨cl_R, cl_al, cl_am, cl_bt, cl_ex⟩ B := ⟨WO, ⟨_, ⟨mk_al, ai_al, if_al, kc_al⟩, FnR.up (FnR.lessX XAL (by decide)) (by decide)⟩, ⟨_, ⟨mk_am, ai_am, if_am, kc_am⟩, FnR.up (FnR.lessX XAM (by decide)) (by decide)⟩, ⟨_, ⟨mk_bt, ai_bt, if_bt, kc_bt⟩, FnR.up Xbt3 (by decide)⟩, ⟨_, ⟨mk_ex, ai_ex, if_ex, kc_ex⟩, Xex4⟩⟩
  have FKI : Def l.prog w K mg base CX0 3 "_law_kind" ["_law_source_here", "_law_taken"] spKind f_kind _ := ⟨ok_kind F_kind g FDR, M a_kind, k_kind, b_kind⟩
  have FKS : Def l.prog w K mg base CX0 4 "_law_kinds" ["_law_source_here", "_law_many"] spKinds f_kinds _ := ⟨ok_kinds F_kinds g FKI, M a_kinds, k_kinds, b_kinds⟩
  have FFO : Def l.prog w K mg base CX0 9 "_law_four" ["_law_low", "_law_high", "_law_kinds_here"] (spFour ⟨cl_R, cl_al, cl_am, cl_bt, cl_ex⟩) f_four _ := ⟨ok_four F_four g WM, M a_four, k_four, b_four⟩
  have FCA : Def l.prog w K mg base (L2.CX l.prog w) 9 "_law_call" ["_law_mode", "_law_low", "_law_high", "_law_kinds_here"] (spCall B) f_call _ := ⟨ok_call F_call g WX, M a_call, k_call, b_call⟩
  have FWH : Def l.prog w K mg base CX0 10 "_law_what" ["_law_mode", "_law_low", "_law_high", "_law_kinds_here"] spWhat f_what _ := ⟨ok_what F_what g FCA XB EC_B XF_B nf_B (M a_ce) (M a_cbs) (kitR_yes is_ce ty_ce s_B_ce) (kitR_no is_cbs ty_cbs s_B_cbs ne_B_cbs), M a_what, k_what, b_what⟩
  have FWN : Def l.prog w K mg base CX0 1 "_law_wrong_number" ["_law_choice"] spWrongN f_wrongn _ := ⟨ok_wrongN F_wrongn g, M a_wrongn, k_wrongn, b_wrongn⟩
  have FWK : Def l.prog w K mg base CX0 1 "_law_wrong_kinds" ["_law_choice", "_law_kinds_here"] (spWrongK K) f_wrongk _ := ⟨ok_wrongK F_wrongk g, M a_wrongk, k_wrongk, b_wrongk⟩
  exact ok_law F_law g FSO FDR FKS FFO FWH FWN FWK
theorem walk {l : PySem.W.OpenLaw} {q : Program} {loose : List Str} {XP : (Str → Option Value) → Heap → Prop} {YP : World → Heap → Prop} {d : DefRec} {K : Params → PySem.W.Frag} (hn : l.most = some 63) (hdf : d.params.defaults = [])
    (hY : ∀ (w : World) (h : Heap), YP w h → (K w.params).In h)
    (F : ∀ (w : World) (mg : Str → Option Value) (fa : Addr) (h : Heap), (K w.params).In h → h.Ns mainGlobals mg → mg d.name = some (.ref fa) →
      ∃ fd : FuncData, (∀ (s : Shared) (u : Value), BindsTo s fd ⟨[u], []⟩ [("_law_script", u)]) ∧ ∀ base : Heap, (K w.params).In base → base.Ns mainGlobals mg → FnOk l.prog w (K w.params) mg base CX0 11 fa fd ["_law_script"] (spLawR (K w.params))) :
    PySem.W.WalkO q loose XP YP l.row.toRowW d [] (fun f vs => PySem.call f vs) :=
  L2.walk_of (n := 63) (k := 11) (x := "_law_script") (CX := fun _ => CX0) (sp := fun w => spLawR (K w.params)) hn (by decide) hdf ⟨rfl, by decide, by decide⟩ hY F (fun _ _ a ns hl _ hS => ⟨a, ns, rfl, hS, hl, fun _ => rfl⟩) fun _ _ _ _ _ z => z
end Cs
open PySem PySem.W PyProof.Rows
set_option maxRecDepth 100000 in
set_option maxHeartbeats 0 in
theorem PySem.Challenge.cw_countsheld_k13_rules_refused_holds : PySem.Challenge.rw_countsheld_k13_rules_refused.Holds := by
  w_on; o_law; k_head; (case hw => w_witness2)
  k_fill
  refine Cs.walk (l := PySem.Challenge.rw_countsheld_k13_rules_refused) rfl rfl (fun w h Y => PySem.W.kIn_of Y) ?F
  case F =>
    intro w mg fa h KX G hmg
    refine' Cs.all_mk KX G hmg ?a_isint ?l_isint ?c_isint ?k_isint ?a_isword ?l_isword ?c_isword ?k_isword ?a_source ?l_source ?c_source ?k_source ?a_mixed ?l_mixed ?c_mixed ?k_mixed ?a_draw ?l_draw ?c_draw ?k_draw ?a_distinct ?l_distinct ?c_distinct ?k_distinct ?a_iskind ?l_iskind ?c_iskind ?k_iskind ?a_isbound ?l_isbound ?c_isbound ?k_isbound ?a_kind ?l_kind ?c_kind ?k_kind ?a_kinds ?l_kinds ?c_kinds ?k_kinds ?a_four ?l_four ?c_four ?k_four ?a_call ?l_call ?c_call ?k_call ?a_what ?l_what ?c_what ?k_what ?a_wrongn ?l_wrongn ?c_wrongn ?k_wrongn ?a_wrongk ?l_wrongk ?c_wrongk ?k_wrongk ?a_law ?l_law ?c_law ?k_law ?a_B ?x_B ?sa_B ?ec_B ?ty_B ?kc_B ?is_B ?ss_B ?nf_B ?a_xr ?t_xr ?l_xr ?c_xr ?k_xr ?a_LET ?a_R ?is_R ?ty_R ?ai_R ?l_iR ?c_iR ?tf_R ?fi_R ?a_al ?pg_al ?hd_al ?po_al ?sa_al ?mk_al ?kc_al ?nk_al ?nl_al ?nm_al ?ca_al ?cm_al ?is_al ?ty_al ?ai_al ?if_al ?l_ial ?c_ial ?e_ial ?o_ial ?v_ial ?p_ial ?tf_al ?fi_al ?a_am ?pg_am ?hd_am ?po_am ?sa_am ?mk_am ?kc_am ?nk_am ?nl_am ?nm_am ?ca_am ?cm_am ?is_am ?ty_am ?ai_am ?if_am ?l_iam ?c_iam ?e_iam ?o_iam ?v_iam ?p_iam ?tf_am ?fi_am ?a_bt ?pg_bt ?hd_bt ?po_bt ?sa_bt ?mk_bt ?kc_bt ?nk_bt ?nl_bt ?nm_bt ?ca_bt ?cm_bt ?is_bt ?ty_bt ?ai_bt ?if_bt ?l_ibt ?c_ibt ?e_ibt ?o_ibt ?v_ibt ?p_ibt ?tf_bt ?fi_bt ?a_ex ?pg_ex ?hd_ex ?po_ex ?sa_ex ?mk_ex ?kc_ex ?nk_ex ?nl_ex ?nm_ex ?ca_ex ?cm_ex ?is_ex ?ty_ex ?ai_ex ?if_ex ?l_iex ?c_iex ?e_iex ?o_iex ?v_iex ?p_iex ?tf_ex ?fi_ex ?ch_R ?ct_R ?sR_al ?s_al_am ?ne_al_am ?s_al_bt ?ne_al_bt ?s_al_ex ?ne_al_ex ?sR_am ?s_am_al ?ne_am_al ?s_am_bt ?ne_am_bt ?s_am_ex ?ne_am_ex ?sR_bt ?s_bt_al ?ne_bt_al ?s_bt_am ?ne_bt_am ?s_bt_ex ?ne_bt_ex ?sR_ex ?s_ex_al ?ne_ex_al ?s_ex_am ?ne_ex_am ?s_ex_bt ?ne_ex_bt ?m_al_al ?u_al_al ?m_am_am ?u_am_am ?m_bt_bt ?u_bt_bt ?m_bt_al ?u_bt_al ?m_bt_am ?u_bt_am ?m_ex_ex ?u_ex_ex ?m_ex_bt ?u_ex_bt ?m_ex_al ?u_ex_al ?m_ex_am ?u_ex_am ?sg_top ?z_super ?sg_opq ?a_RES ?t_RES ?hg_B ?hk_B ?hd_B ?ca_B ?cm_B ?a_ce ?is_ce ?ty_ce ?s_B_ce ?a_cbs ?is_cbs ?ty_cbs ?s_B_cbs ?ne_B_cbs ?z_len ?z_int ?z_abs ?z_list ?z_range ?z_sorted ?z_str ?z_isinstance ?z_sum ?z_tuple ?z_dict ?z_all ?z_bool ?z_enumerate
    (case a_isint => k_is)
    (case l_isint => k_is)
    (case c_isint => k_is)
    (case k_isint => k_is)
    (case a_isword => k_is)
    (case l_isword => k_is)
    (case c_isword => k_is)
    (case k_isword => k_is)
    (case a_source => k_is)
    (case l_source => k_is)
    (case c_source => k_is)
    (case k_source => k_is)
    (case a_mixed => k_is)
    (case l_mixed => k_is)
    (case c_mixed => k_is)
    (case k_mixed => k_is)
    (case a_draw => k_is)
    (case l_draw => k_is)
    (case c_draw => k_is)
    (case k_draw => k_is)
    (case a_distinct => k_is)
    (case l_distinct => k_is)
    (case c_distinct => k_is)
    (case k_distinct => k_is)
    (case a_iskind => k_is)
    (case l_iskind => k_is)
    (case c_iskind => k_is)
    (case k_iskind => k_is)
    (case a_isbound => k_is)
    (case l_isbound => k_is)
    (case c_isbound => k_is)
    (case k_isbound => k_is)
    (case a_kind => k_is)
    (case l_kind => k_is)
    (case c_kind => k_is)
    (case k_kind => k_is)
    (case a_kinds => k_is)
    (case l_kinds => k_is)
    (case c_kinds => k_is)
    (case k_kinds => k_is)
    (case a_four => k_is)
    (case l_four => k_is)
    (case c_four => k_is)
    (case k_four => k_is)
    (case a_call => k_is)
    (case l_call => k_is)
    (case c_call => k_is)
    (case k_call => k_is)
    (case a_what => k_is)
    (case l_what => k_is)
    (case c_what => k_is)
    (case k_what => k_is)
    (case a_wrongn => k_is)
    (case l_wrongn => k_is)
    (case c_wrongn => k_is)
    (case k_wrongn => k_is)
    (case a_wrongk => k_is)
    (case l_wrongk => k_is)
    (case c_wrongk => k_is)
    (case k_wrongk => k_is)
    (case a_law => k_is)
    (case l_law => k_is)
    (case c_law => k_is)
    (case k_law => k_is)
    (case a_B => k_is)
    (case x_B => k_is)
    (case sa_B => k_is)
    (case ec_B => k_is)
    (case ty_B => k_is)
    (case kc_B => k_is)
    (case is_B => k_is)
    (case ss_B => k_is)
    (case nf_B => k_is)
    (case a_xr => k_is)
    (case t_xr => k_is)
    (case l_xr => k_is)
    (case c_xr => k_is)
    (case k_xr => k_is)
    (case a_LET => k_is)
    (case a_R => k_is)
    (case is_R => k_is)
    (case ty_R => k_is)
    (case ai_R => k_is)
    (case l_iR => k_is)
    (case c_iR => k_is)
    (case tf_R => k_is)
    (case fi_R => k_is)
    (case a_al => k_is)
    (case pg_al => k_is)
    (case hd_al => k_is)
    (case po_al => k_is)
    (case sa_al => k_is)
    (case mk_al => k_is)
    (case kc_al => k_is)
    (case nk_al => k_is)
    (case nl_al => k_is)
    (case nm_al => k_is)
    (case ca_al => k_is)
    (case cm_al => k_is)
    (case is_al => k_is)
    (case ty_al => k_is)
    (case ai_al => k_is)
    (case if_al => k_is)
    (case l_ial => k_is)
    (case c_ial => k_is)
    (case e_ial => k_is)
    (case o_ial => k_is)
    (case v_ial => rfl)
    (case p_ial => first | rfl | decide +kernel)
    (case tf_al => k_is)
    (case fi_al => k_is)
    (case a_am => k_is)
    (case pg_am => k_is)
    (case hd_am => k_is)
    (case po_am => k_is)
    (case sa_am => k_is)
    (case mk_am => k_is)
    (case kc_am => k_is)
    (case nk_am => k_is)
    (case nl_am => k_is)
    (case nm_am => k_is)
    (case ca_am => k_is)
    (case cm_am => k_is)
    (case is_am => k_is)
    (case ty_am => k_is)
    (case ai_am => k_is)
    (case if_am => k_is)
    (case l_iam => k_is)
    (case c_iam => k_is)
    (case e_iam => k_is)
    (case o_iam => k_is)
    (case v_iam => rfl)
    (case p_iam => first | rfl | decide +kernel)
    (case tf_am => k_is)
    (case fi_am => k_is)
    (case a_bt => k_is)
    (case pg_bt => k_is)
    (case hd_bt => k_is)
    (case po_bt => k_is)
    (case sa_bt => k_is)
    (case mk_bt => k_is)
    (case kc_bt => k_is)
    (case nk_bt => k_is)
    (case nl_bt => k_is)
    (case nm_bt => k_is)
    (case ca_bt => k_is)
    (case cm_bt => k_is)
    (case is_bt => k_is)
    (case ty_bt => k_is)
    (case ai_bt => k_is)
    (case if_bt => k_is)
    (case l_ibt => k_is)
    (case c_ibt => k_is)
    (case e_ibt => k_is)
    (case o_ibt => k_is)
    (case v_ibt => rfl)
    (case p_ibt => first | rfl | decide +kernel)
    (case tf_bt => k_is)
    (case fi_bt => k_is)
    (case a_ex => k_is)
    (case pg_ex => k_is)
    (case hd_ex => k_is)
    (case po_ex => k_is)
    (case sa_ex => k_is)
    (case mk_ex => k_is)
    (case kc_ex => k_is)
    (case nk_ex => k_is)
    (case nl_ex => k_is)
    (case nm_ex => k_is)
    (case ca_ex => k_is)
    (case cm_ex => k_is)
    (case is_ex => k_is)
    (case ty_ex => k_is)
    (case ai_ex => k_is)
    (case if_ex => k_is)
    (case l_iex => k_is)
    (case c_iex => k_is)
    (case e_iex => k_is)
    (case o_iex => k_is)
    (case v_iex => rfl)
    (case p_iex => first | rfl | decide +kernel)
    (case tf_ex => k_is)
    (case fi_ex => k_is)
    (case ch_R => k_is)
    (case ct_R => k_is)
    (case sR_al => k_is)
    (case s_al_am => k_is)
    (case ne_al_am => decide)
    (case s_al_bt => k_is)
    (case ne_al_bt => decide)
    (case s_al_ex => k_is)
    (case ne_al_ex => decide)
    (case sR_am => k_is)
    (case s_am_al => k_is)
    (case ne_am_al => decide)
    (case s_am_bt => k_is)
    (case ne_am_bt => decide)
    (case s_am_ex => k_is)
    (case ne_am_ex => decide)
    (case sR_bt => k_is)
    (case s_bt_al => k_is)
    (case ne_bt_al => decide)
    (case s_bt_am => k_is)
    (case ne_bt_am => decide)
    (case s_bt_ex => k_is)
    (case ne_bt_ex => decide)
    (case sR_ex => k_is)
    (case s_ex_al => k_is)
    (case ne_ex_al => decide)
    (case s_ex_am => k_is)
    (case ne_ex_am => decide)
    (case s_ex_bt => k_is)
    (case ne_ex_bt => decide)
    (case m_al_al => k_is)
    (case u_al_al => ks_is)
    (case m_am_am => k_is)
    (case u_am_am => ks_is)
    (case m_bt_bt => k_is)
    (case u_bt_bt => ks_is)
    (case m_bt_al => k_is)
    (case u_bt_al => ks_is)
    (case m_bt_am => k_is)
    (case u_bt_am => ks_is)
    (case m_ex_ex => k_is)
    (case u_ex_ex => ks_is)
    (case m_ex_bt => k_is)
    (case u_ex_bt => ks_is)
    (case m_ex_al => k_is)
    (case u_ex_al => ks_is)
    (case m_ex_am => k_is)
    (case u_ex_am => ks_is)
    (case sg_top => first | rfl | decide +kernel)
    (case z_super => k_is)
    (case sg_opq => k_is)
    (case a_RES => k_is)
    (case t_RES => k_is)
    (case hg_B => k_is)
    (case hk_B => k_is)
    (case hd_B => k_is)
    (case ca_B => k_is)
    (case cm_B => k_is)
    (case a_ce => k_is)
    (case is_ce => k_is)
    (case ty_ce => k_is)
    (case s_B_ce => k_is)
    (case a_cbs => k_is)
    (case is_cbs => k_is)
    (case ty_cbs => k_is)
    (case s_B_cbs => k_is)
    (case ne_B_cbs => decide)
    (case z_len => k_is)
    (case z_int => k_is)
    (case z_abs => k_is)
    (case z_list => k_is)
    (case z_range => k_is)
    (case z_sorted => k_is)
    (case z_str => k_is)
    (case z_isinstance => k_is)
    (case z_sum => k_is)
    (case z_tuple => k_is)
    (case z_dict => k_is)
    (case z_all => k_is)
    (case z_bool => k_is)
    (case z_enumerate => k_is)
