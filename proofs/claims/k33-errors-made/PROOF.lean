import PyProof.Rows.All
import Wide.All
import OpenK.AllK
import Wide.FinOn
import HandS.ForMost
import HandS.Set
import HandS.SetBool
import PyProof.Rows.SortShellAny
import KE.KOpsOwn
import HandS.Star
import HandS.ClsMeth
import HandS.Property
import HandS.CallRecv
import HandS.Codes
import HandS.Wide
import HandS.IsInst
import HandS.RaiseMore
import HandS.Walk
import HandS.ExcInit
import HandS.TryOnly
import HandS.WordsExc
import HandS.ExcOwn
import HandS.ExcIs
import HandS.ExcField
import PyProof.ExcBaseAll.ZeroDivisionError
import PyProof.ExcBaseAll.LookupError
import PyProof.ExcBaseAll.RuntimeError
import HandS.ExcValue
import HandS.Small
import KE.KStateDown
import KE.KSuper
import HandS.Base
import HandS.Call
import HandS.Defaults
import HandS.Words
import HandS.Head0
import HandS.Head1
import HandS.Head2
import HandS.HeadEnd
import HandS.HeadHook1
import HandS.HeadHook2
import PySem.Challenge.RW_countsheld_k33_errors_made
set_option Elab.async false
set_option linter.all false
set_option maxRecDepth 100000
set_option maxHeartbeats 4000000
namespace Cs
open PySem L2
def top (i : Nat) : Stmt := PySem.Challenge.pw_countsheld_k33_errors_made.main.body.getD i (.Pass ⟨0, 0, 0, 0⟩)
abbrev s_BadWord_init : Stmt := inClass (top 2) 0
theorem sc_BadWord_init : FnScope ["self", "word"] ["self", "word"] (defScope s_BadWord_init) :=
  ⟨rfl, rfl, rfl, by decide +kernel, rfl, by decide +kernel, by decide +kernel⟩
abbrev s_BadNumber_init : Stmt := inClass (top 3) 0
theorem sc_BadNumber_init : FnScope ["self", "number"] ["self", "number"] (defScope s_BadNumber_init) :=
  ⟨rfl, rfl, rfl, by decide +kernel, rfl, by decide +kernel, by decide +kernel⟩
abbrev s_BadCounts_init : Stmt := inClass (top 4) 0
theorem sc_BadCounts_init : FnScope ["self", "at"] ["self", "at"] (defScope s_BadCounts_init) :=
  ⟨rfl, rfl, rfl, by decide +kernel, rfl, by decide +kernel, by decide +kernel⟩
abbrev s_BadRule_init : Stmt := inClass (top 5) 0
theorem sc_BadRule_init : FnScope ["self", "what"] ["self", "what"] (defScope s_BadRule_init) :=
  ⟨rfl, rfl, rfl, by decide +kernel, rfl, by decide +kernel, by decide +kernel⟩
abbrev s_BadRules_init : Stmt := inClass (top 6) 0
theorem sc_BadRules_init : FnScope ["self", "what"] ["self", "what"] (defScope s_BadRules_init) :=
  ⟨rfl, rfl, rfl, by decide +kernel, rfl, by decide +kernel, by decide +kernel⟩
abbrev s_BadDoor_init : Stmt := inClass (top 7) 0
theorem sc_BadDoor_init : FnScope ["self", "at"] ["self", "at"] (defScope s_BadDoor_init) :=
  ⟨rfl, rfl, rfl, by decide +kernel, rfl, by decide +kernel, by decide +kernel⟩
abbrev s_Unfit_init : Stmt := inClass (top 8) 0
theorem sc_Unfit_init : FnScope ["self", "door", "line"] ["self", "door", "line"] (defScope s_Unfit_init) :=
  ⟨rfl, rfl, rfl, by decide +kernel, rfl, by decide +kernel, by decide +kernel⟩
abbrev s_BadDesk_init : Stmt := inClass (top 9) 0
theorem sc_BadDesk_init : FnScope ["self", "what"] ["self", "what"] (defScope s_BadDesk_init) :=
  ⟨rfl, rfl, rfl, by decide +kernel, rfl, by decide +kernel, by decide +kernel⟩
abbrev s_BadText_init : Stmt := inClass (top 10) 0
theorem sc_BadText_init : FnScope ["self", "at"] ["self", "at"] (defScope s_BadText_init) :=
  ⟨rfl, rfl, rfl, by decide +kernel, rfl, by decide +kernel, by decide +kernel⟩
abbrev s_NotLoose_init : Stmt := inClass (top 11) 0
theorem sc_NotLoose_init : FnScope ["self", "kind"] ["self", "kind"] (defScope s_NotLoose_init) :=
  ⟨rfl, rfl, rfl, by decide +kernel, rfl, by decide +kernel, by decide +kernel⟩
abbrev s_Named_init : Stmt := inClass (top 12) 0
theorem sc_Named_init : FnScope ["self", "row"] ["self", "row"] (defScope s_Named_init) :=
  ⟨rfl, rfl, rfl, by decide +kernel, rfl, by decide +kernel, by decide +kernel⟩
abbrev s_Full_init : Stmt := inClass (top 13) 0
theorem sc_Full_init : FnScope ["self", "owner"] ["self", "owner"] (defScope s_Full_init) :=
  ⟨rfl, rfl, rfl, by decide +kernel, rfl, by decide +kernel, by decide +kernel⟩
abbrev s_NoPick_init : Stmt := inClass (top 14) 0
theorem sc_NoPick_init : FnScope ["self", "pick"] ["self", "pick"] (defScope s_NoPick_init) :=
  ⟨rfl, rfl, rfl, by decide +kernel, rfl, by decide +kernel, by decide +kernel⟩
abbrev s_Broken_init : Stmt := inClass (top 15) 0
theorem sc_Broken_init : FnScope ["self", "rules"] ["self", "rules"] (defScope s_Broken_init) :=
  ⟨rfl, rfl, rfl, by decide +kernel, rfl, by decide +kernel, by decide +kernel⟩
abbrev s_BadHistory_init : Stmt := inClass (top 16) 0
theorem sc_BadHistory_init : FnScope ["self", "at"] ["self", "at"] (defScope s_BadHistory_init) :=
  ⟨rfl, rfl, rfl, by decide +kernel, rfl, by decide +kernel, by decide +kernel⟩
abbrev s_BadStanding_init : Stmt := inClass (top 17) 0
theorem sc_BadStanding_init : FnScope ["self", "standing"] ["self", "standing"] (defScope s_BadStanding_init) :=
  ⟨rfl, rfl, rfl, by decide +kernel, rfl, by decide +kernel, by decide +kernel⟩
abbrev s_BadWay_init : Stmt := inClass (top 18) 0
theorem sc_BadWay_init : FnScope ["self", "at"] ["self", "at"] (defScope s_BadWay_init) :=
  ⟨rfl, rfl, rfl, by decide +kernel, rfl, by decide +kernel, by decide +kernel⟩
abbrev s_NoWay_init : Stmt := inClass (top 19) 0
theorem sc_NoWay_init : FnScope ["self", "standing"] ["self", "standing"] (defScope s_NoWay_init) :=
  ⟨rfl, rfl, rfl, by decide +kernel, rfl, by decide +kernel, by decide +kernel⟩
abbrev s_TooMany_init : Stmt := inClass (top 21) 0
theorem sc_TooMany_init : FnScope ["self", "what"] ["self", "what"] (defScope s_TooMany_init) :=
  ⟨rfl, rfl, rfl, by decide +kernel, rfl, by decide +kernel, by decide +kernel⟩
abbrev s_NoDoor_init : Stmt := inClass (top 22) 0
theorem sc_NoDoor_init : FnScope ["self", "name"] ["self", "name"] (defScope s_NoDoor_init) :=
  ⟨rfl, rfl, rfl, by decide +kernel, rfl, by decide +kernel, by decide +kernel⟩
abbrev s_NoBegin_init : Stmt := inClass (top 23) 0
theorem sc_NoBegin_init : FnScope ["self", "index"] ["self", "index"] (defScope s_NoBegin_init) :=
  ⟨rfl, rfl, rfl, by decide +kernel, rfl, by decide +kernel, by decide +kernel⟩
abbrev s_NoOwner_init : Stmt := inClass (top 24) 0
theorem sc_NoOwner_init : FnScope ["self", "owner"] ["self", "owner"] (defScope s_NoOwner_init) :=
  ⟨rfl, rfl, rfl, by decide +kernel, rfl, by decide +kernel, by decide +kernel⟩
abbrev s_NoRow_init : Stmt := inClass (top 25) 0
theorem sc_NoRow_init : FnScope ["self", "row"] ["self", "row"] (defScope s_NoRow_init) :=
  ⟨rfl, rfl, rfl, by decide +kernel, rfl, by decide +kernel, by decide +kernel⟩
abbrev s_NoRule_init : Stmt := inClass (top 26) 0
theorem sc_NoRule_init : FnScope ["self", "rule"] ["self", "rule"] (defScope s_NoRule_init) :=
  ⟨rfl, rfl, rfl, by decide +kernel, rfl, by decide +kernel, by decide +kernel⟩
abbrev s_NoDivisor_init : Stmt := inClass (top 27) 0
theorem sc_NoDivisor_init : FnScope ["self", "word"] ["self", "word"] (defScope s_NoDivisor_init) :=
  ⟨rfl, rfl, rfl, by decide +kernel, rfl, by decide +kernel, by decide +kernel⟩
abbrev s_Waits_init : Stmt := inClass (top 28) 0
theorem sc_Waits_init : FnScope ["self", "owner"] ["self", "owner"] (defScope s_Waits_init) :=
  ⟨rfl, rfl, rfl, by decide +kernel, rfl, by decide +kernel, by decide +kernel⟩
abbrev s_Refused_init : Stmt := inClass (top 29) 0
theorem sc_Refused_init : FnScope ["self", "door", "line", "why"] ["self", "door", "line", "why"] (defScope s_Refused_init) :=
  ⟨rfl, rfl, rfl, by decide +kernel, rfl, by decide +kernel, by decide +kernel⟩
abbrev s_Over_init : Stmt := inClass (top 30) 0
theorem sc_Over_init : FnScope ["self", "number"] ["self", "number"] (defScope s_Over_init) :=
  ⟨rfl, rfl, rfl, by decide +kernel, rfl, by decide +kernel, by decide +kernel⟩
abbrev s_Busy_init : Stmt := inClass (top 31) 0
theorem sc_Busy_init : FnScope ["self", "owner"] ["self", "owner"] (defScope s_Busy_init) :=
  ⟨rfl, rfl, rfl, by decide +kernel, rfl, by decide +kernel, by decide +kernel⟩
abbrev s_l_source : Stmt := top 33
theorem sc_l_source : FnScope ["_law_script"] ["_law_script"] (defScope s_l_source) :=
  ⟨rfl, rfl, rfl, by decide +kernel, rfl, by decide +kernel, by decide +kernel⟩
abbrev s_l_mixed : Stmt := top 34
theorem sc_l_mixed : FnScope ["_law_cell", "_law_count", "_law_first_here"] ["_law_cell", "_law_count"] (defScope s_l_mixed) :=
  ⟨rfl, rfl, rfl, by decide +kernel, rfl, by decide +kernel, by decide +kernel⟩
abbrev s_l_draw : Stmt := top 35
theorem sc_l_draw : FnScope ["_law_source_here", "_law_size", "_law_at", "_law_cell", "_law_value_here"] ["_law_source_here", "_law_size"] (defScope s_l_draw) :=
  ⟨rfl, rfl, rfl, by decide +kernel, rfl, by decide +kernel, by decide +kernel⟩
abbrev s_l_word : Stmt := top 36
theorem sc_l_word : FnScope ["_law_source_here", "_law_words", "_law_word_here", "_law_k"] ["_law_source_here"] (defScope s_l_word) :=
  ⟨rfl, rfl, rfl, by decide +kernel, rfl, by decide +kernel, by decide +kernel⟩
abbrev s_l_number : Stmt := top 37
theorem sc_l_number : FnScope ["_law_source_here", "_law_mode", "_law_number_here", "_law_k"] ["_law_source_here"] (defScope s_l_number) :=
  ⟨rfl, rfl, rfl, by decide +kernel, rfl, by decide +kernel, by decide +kernel⟩
abbrev s_l_value : Stmt := top 38
theorem sc_l_value : FnScope ["_law_source_here", "_law_mode", "_law_number_here"] ["_law_source_here"] (defScope s_l_value) :=
  ⟨rfl, rfl, rfl, by decide +kernel, rfl, by decide +kernel, by decide +kernel⟩
abbrev s_l_first : Stmt := top 39
theorem sc_l_first : FnScope ["_law_e", "_law_found"] ["_law_e"] (defScope s_l_first) :=
  ⟨rfl, rfl, rfl, by decide +kernel, rfl, by decide +kernel, by decide +kernel⟩
abbrev s_l_second : Stmt := top 40
theorem sc_l_second : FnScope ["_law_e", "_law_found"] ["_law_e"] (defScope s_l_second) :=
  ⟨rfl, rfl, rfl, by decide +kernel, rfl, by decide +kernel, by decide +kernel⟩
abbrev s_l_bases : Stmt := top 41
theorem sc_l_bases : FnScope ["_law_e", "_law_found"] ["_law_e"] (defScope s_l_bases) :=
  ⟨rfl, rfl, rfl, by decide +kernel, rfl, by decide +kernel, by decide +kernel⟩
abbrev s_l_row : Stmt := top 42
theorem sc_l_row : FnScope ["_law_at", "_law_many", "_law_k"] ["_law_at", "_law_many"] (defScope s_l_row) :=
  ⟨rfl, rfl, rfl, by decide +kernel, rfl, by decide +kernel, by decide +kernel⟩
abbrev s_l_values : Stmt := top 43
theorem sc_l_values : FnScope ["_law_one", "_law_two", "_law_three", "_law_made_of", "_law_pair", "_law_triple", "_law_thing"] ["_law_one", "_law_two", "_law_three"] (defScope s_l_values) :=
  ⟨rfl, rfl, rfl, by decide +kernel, rfl, by decide +kernel, by decide +kernel⟩
abbrev s_law : Stmt := top 44
theorem sc_law : FnScope ["_law_script", "_law_source_here", "_law_one", "_law_two", "_law_three", "_law_first_here", "_law_second_here", "_law_at"] ["_law_script"] (defScope s_law) :=
  ⟨rfl, rfl, rfl, by decide +kernel, rfl, by decide +kernel, by decide +kernel⟩
end Cs

set_option Elab.async false
set_option linter.all false
set_option maxRecDepth 100000
set_option maxHeartbeats 4000000
/-! Sets of texts as a set comprehension makes them: a list of members without repeats, up to order; and sorted(..) of such a set. -/
namespace Cs
open PySem PySem.Spec PyProof.Rows L2

def tkey (e : Int × Value) : Str := match e.2 with | .str z _ => z | _ => Str.empty
def TGood (w : World) (e : Int × Value) : Prop := ∃ z tk, e.2 = Value.str z tk ∧ e.1 = hashStr w z
/-- a set object whose members are the texts zs (in some order) -/
def TSet (w : World) (h : Heap) (a : Addr) (zs : List Str) : Prop :=
  ∃ o es ep t, h.get? a = some o ∧ o.ExactSet ∧ o.data = .set es ep t ∧ (∀ e ∈ es.toList, TGood w e)
    ∧ (es.toList.map tkey).Perm zs ∧ zs.Nodup ∧ es.size < scanBound ∧ t.fits es.size = true
    ∧ Ris t.place.toList ∧ (w.params.followText "set-order" = true ∨ t.led = true)

section
variable {P : Program} {w : World} {h h' : Heap} {a : Addr} {zs : List Str}
theorem TSet.there (R : TSet w h a zs) (k : ∀ o, h.get? a = some o → h'.get? a = some o) : TSet w h' a zs := by
  obtain ⟨o, es, ep, t, q, r⟩ := R
  exact ⟨o, es, ep, t, k o q, r⟩
theorem TGood.elems {l : List (Int × Value)} (g : ∀ e ∈ l, TGood w e) : ElemsOf (PySem.strKind P w) l := fun e m => by
  obtain ⟨z, tk, e1, e2⟩ := g e m
  refine ⟨⟨z, ?_, e2⟩, ?_⟩
  · rw [e1]
    show Value.isStrOf z (.str z tk) = true
    simp [Value.isStrOf]
  · rw [e1]
    rfl
theorem TGood.is_iff {e : Int × Value} (g : TGood w e) (z : Str) : (PySem.strKind P w).is z e.2 = true ↔ tkey e = z := by
  obtain ⟨y, tk, e1, _⟩ := g
  unfold tkey
  rw [e1]
  show Value.isStrOf z (.str y tk) = true ↔ y = z
  simp [Value.isStrOf]
theorem TGood.mem_iff {l : List (Int × Value)} (g : ∀ e ∈ l, TGood w e) (z : Str) : z ∈ l.map tkey ↔ ∃ e ∈ l, (PySem.strKind P w).is z e.2 = true := by
  constructor
  · intro m
    obtain ⟨e, he, q⟩ := List.mem_map.mp m
    exact ⟨e, he, (TGood.is_iff (g e he) z).mpr q⟩
  · rintro ⟨e, he, q⟩
    exact List.mem_map.mpr ⟨e, he, (TGood.is_iff (g e he) z).mp q⟩
end

section
variable {P : Program} {w : World} {A : Around} {E : Value → Shared → Prop} {s : Shared} {a : Addr} {zs : List Str}
/-- the end of an addition: the table is stored, laid anew where it is too full -/
theorem tset_tail {g : Bool → Sem Unit} (hg : ∀ (b : Bool) (s1 : Shared) (Q1 : Unit → Shared → Prop), Q1 () s1 → wpAny (model P w) A (g b) Q1 E s1)
    {o : Obj} {es es1 : Array (Int × Value)} {ep : Nat} {t t1 : SetTable} (ho : s.heap.get? a = some o) (hex : o.ExactSet) (hd : o.data = .set es ep t)
    (gd : ∀ e ∈ es1.toList, TGood w e) (pz : (es1.toList.map tkey).Perm zs) (nz : zs.Nodup) (hb : es1.size < scanBound) (hf : t1.fits es1.size = true)
    (hr : Ris t1.place.toList) (hl : w.params.followText "set-order" = true ∨ t1.led = true) {dm : Bool} {R : Option Bool → Shared → Prop}
    (hR : ∀ h', Heap.SameBut a s.heap h' → TSet w h' a zs → R (some true) { s with heap := h' }) :
    wpAny (model P w) A (do
        storeSet a es1 t1
        if (!dm && t1.tooFull) = true then do
            g (relayAll t1 es1 (SetTable.grown es1.size)).2.2
            storeSet a (relayAll t1 es1 (SetTable.grown es1.size)).1 (relayAll t1 es1 (SetTable.grown es1.size)).2.1
            pure (some true)
          else pure (some true)) R E s := by
  refine wpAny_bind (wpAny_storeSet_of ho hd ?_ (fits_of_scanBound hb))
  have ho1 := store_at (es' := es1) (t' := t1) ho hd
  have same := Heap.SameBut.update s.heap a (Obj.putSet es1 t1)
  split
  · have p2 := relayAll_perm t1 es1 (SetTable.grown es1.size)
    have f2 := relayAll_fits t1 es1 (SetTable.grown es1.size)
    have r2 := relayAll_ris t1 es1 (SetTable.grown es1.size)
    have l2 := relayAll_led t1 es1 (SetTable.grown es1.size)
    generalize relayAll t1 es1 (SetTable.grown es1.size) = Z at p2 f2 r2 l2 ⊢
    obtain ⟨es2, t2, gv⟩ := Z
    dsimp only at p2 f2 r2 l2 ⊢
    have sz : es2.size = es1.size := by rw [← Array.length_toList, p2.length_eq, Array.length_toList]
    have hb2 : es2.size < scanBound := sz ▸ hb
    refine wpAny_bind (hg _ _ _ (wpAny_bind (wpAny_storeSet_of ho1 rfl ?_ (fits_of_scanBound hb2))))
    have ho2 := store_at (es' := es2) (t' := t2) ho1 rfl
    exact wpAny_pure (hR _ (same.trans (Heap.SameBut.update _ a _)) ⟨_, es2, _, t2, ho2, hex, rfl, fun e m => gd e (p2.mem_iff.mp m), (p2.map tkey).trans pz, nz, hb2, f2, r2, hl.imp id fun q => by rw [l2]; exact q⟩)
  · exact wpAny_pure (hR _ same ⟨_, es1, _, t1, ho1, hex, rfl, gd, pz, nz, hb, hf, hr, hl⟩)

/-- one text more -/
def addT (zs : List Str) (z : Str) : List Str := if z ∈ zs then zs else zs ++ [z]

theorem tset_hashed {z : Str} {tk : Tok} {Q : Bool → Shared → Prop} (R : TSet w s.heap a zs) (room : zs.length + 1 < scanBound)
    (hQ : ∀ b h', Heap.SameBut a s.heap h' → TSet w h' a (addT zs z) → Q b { s with heap := h' }) :
    wpAny (model P w) A (setAddHashed a (.str z tk) ((PySem.strKind P w).hash z)) Q E s := by
  obtain ⟨o, es, ep, t, ho, hex, hd, gd, pz, nz, hb, hf, hr, hl⟩ := R
  have hkey : (PySem.strKind P w).is z (.str z tk) = true := by
    show Value.isStrOf z (.str z tk) = true
    simp [Value.isStrOf]
  have hsc : (Value.str z tk).scannable = true := rfl
  have hel : ElemsOf (PySem.strKind P w) es.toList := TGood.elems gd
  have hn : es.size = zs.length := by rw [← Array.length_toList, ← pz.length_eq, List.length_map]
  unfold setAddHashed setAddHashedIn
  refine wpAny_holding (wpAny_bind (wpAny_setState_of ho hd hf ?_))
  dsimp only
  rw [byScan_of hsc hb hel]
  simp only [↓reduceIte]
  unfold setAddByScan
  refine wpAny_bind (wpAny_bind (wpAny_rule (wpAny_bind (wpAny_setScan_of hkey ho hd hf hel ?_))))
  cases hfi : List.findIdx? (fun e => (PySem.strKind P w).is z e.2) es.toList with
  | some j =>
    dsimp only
    obtain ⟨hj, pj, _⟩ := List.findIdx?_eq_some_iff_getElem.mp hfi
    have hin : z ∈ zs := pz.mem_iff.mp ((TGood.mem_iff (P := P) gd z).mpr ⟨_, List.getElem_mem hj, pj⟩)
    have q := hQ false s.heap (Heap.SameBut.refl a s.heap)
    rw [show addT zs z = zs from if_pos hin] at q
    exact wpAny_pure (wpAny_pure (q ⟨o, es, ep, t, ho, hex, hd, gd, pz, nz, hb, hf, hr, hl⟩))
  | none =>
    dsimp only
    have hout : z ∉ zs := fun m => by
      obtain ⟨e, he, q⟩ := (TGood.mem_iff (P := P) (w := w) gd z).mp (pz.mem_iff.mpr m)
      have c := List.findIdx?_eq_none_iff.mp hfi e he
      rw [q] at c
      cases c
    have hgw : ∀ (b : Bool) {s1 : Shared} {Q1 : Unit → Shared → Prop}, Q1 () s1 → wpAny (model P w) A (match b with | true => rule "set.scan.the-table-gave-way" | false => pure ()) Q1 E s1 :=
      fun b s1 Q1 q => by cases b <;> first | exact wpAny_pure q | exact wpAny_rule q
    have p1 := layNew_perm t es ((PySem.strKind P w).hash z) (.str z tk)
    have f1 := layNew_fits t es ((PySem.strKind P w).hash z) (.str z tk)
    have r1 := layNew_ris t es ((PySem.strKind P w).hash z) (.str z tk) hr
    have l1 := layNew_led t es ((PySem.strKind P w).hash z) (.str z tk)
    generalize layNew t es ((PySem.strKind P w).hash z) (.str z tk) = Z at p1 f1 r1 l1 ⊢
    obtain ⟨es1, t1, dm, gv⟩ := Z
    dsimp only at p1 f1 r1 l1 ⊢
    rw [Array.toList_push] at p1
    have gd1 : ∀ e ∈ es1.toList, TGood w e := fun e m => by
      rcases List.mem_append.mp (p1.mem_iff.mp m) with q | q
      · exact gd e q
      · rw [List.mem_singleton.mp q]
        exact ⟨z, tk, rfl, rfl⟩
    have ez : addT zs z = zs ++ [z] := if_neg hout
    have pz1 : (es1.toList.map tkey).Perm (addT zs z) := by
      rw [ez]
      refine (p1.map tkey).trans ?_
      rw [List.map_append]
      exact pz.append_right _
    have nz1 : (addT zs z).Nodup := by
      rw [ez]
      exact nd_snoc nz hout
    have sz1 : es1.size = zs.length + 1 := by
      rw [← Array.length_toList, p1.length_eq, List.length_append, Array.length_toList, hn]
      rfl
    have hb1 : es1.size < scanBound := by rw [sz1]; exact room
    have hl1 : w.params.followText "set-order" = true ∨ t1.led = true := hl.imp id fun q => by rw [l1]; exact q
    have fin : ∀ h', Heap.SameBut a s.heap h' → TSet w h' a (addT zs z) → Q true { s with heap := h' } := hQ true
    refine wpAny_bind (hgw _ ?_)
    split
    · refine wpAny_bind ?_
      rw [hashByValue_scannable 8 hsc]
      refine wpAny_pure ?_
      refine tset_tail ?_ ho hex hd gd1 pz1 nz1 hb1 ?_ ?_ ?_ ?_
      · intro b s1 Q1 q
        cases b <;> first | exact wpAny_pure q | exact wpAny_rule q
      · first | (split <;> first | exact f1 | exact SetTable.fits_plain_off f1) | exact f1
      · first | (split <;> exact r1) | exact r1
      · first | (split <;> exact hl1) | exact hl1
      · intro h' sb r
        dsimp only
        exact wpAny_pure (fin h' sb r)
    · refine wpAny_bind (wpAny_pure ?_)
      simp only [↓reduceIte]
      refine tset_tail ?_ ho hex hd gd1 pz1 nz1 hb1 f1 r1 hl1 ?_
      · intro b s1 Q1 q
        cases b <;> first | exact wpAny_pure q | exact wpAny_rule q
      · intro h' sb r
        dsimp only
        exact wpAny_pure (fin h' sb r)

theorem TSet.typeIs {zs : List Str} (R : TSet w s.heap a zs) : s.TypeIs (.ref a) "set" := by
  obtain ⟨o, es, ep, t, ho, hex, _⟩ := R
  exact ⟨o, ho, hex.1⟩
/-- s.add(z) -/
theorem tset_add {z : Str} {tk : Tok} {Q : Value → Shared → Prop} (R : TSet w s.heap a zs) (room : zs.length + 1 < scanBound)
    (hQ : ∀ h', Heap.SameBut a s.heap h' → TSet w h' a (addT zs z) → Q .none { s with heap := h', toks := s.toks + 1 }) :
    wpAny (model P w) A (call (.builtin "set.add") [.ref a, .str z tk]) Q E s := by
  have hkey : (PySem.strKind P w).is z (.str z tk) = true := by
    show Value.isStrOf z (.str z tk) = true
    simp [Value.isStrOf]
  refine wpAny_call_entry F.slot_set_add R.typeIs F.entry_set_add ?_ (F.args_set_add_2 _ _)
  unfold Builtin.«set.add» Builtin.Frozenset.oneOther
  simp only [List.isEmpty_nil, bind_assoc]
  unfold Builtin.Frozenset.addrOf setAdd
  refine wpAny_bind (wpAny_pure ?_)
  try dsimp only
  refine wpAny_bind (wpAny_pure ?_)
  try dsimp only
  refine wpAny_bind (wpAny_holding (wpAny_bind ((PySem.strKind P w).pyHash hkey ?_)))
  refine tset_hashed (s := { s with toks := s.toks + 1 }) R room fun b h' sb r => ?_
  show wpAny _ _ (ret Value.none) _ _ _
  exact wpAny_pure ⟨_, rfl, hQ h' sb r⟩
theorem tset_fresh {h : Heap} (w : World) : TSet w (h.push { cls := .type "set", dict := none, data := .set #[] 0 (.fresh 0 0 (!w.params.followText "set-order")) }) h.objs.size [] := by
  refine ⟨_, #[], 0, _, Heap.get?_push_size _ rfl, ⟨rfl, rfl, rfl⟩, rfl, (fun e m => by simp at m), .nil, .nil, by decide, rfl, .nil, ?_⟩
  show _ ∨ (!w.params.followText "set-order") = true
  cases w.params.followText "set-order"
  · exact Or.inr rfl
  · exact Or.inl rfl

/-! ### sorted -/
theorem strs_of : ∀ (l : List Value), (∀ v ∈ l, ∃ z tk, v = Value.str z tk) → StrsAre l (l.map fun v => tkey (0, v))
  | [], _ => .nil
  | v :: l, h => by
    obtain ⟨z, tk, rfl⟩ := h v List.mem_cons_self
    exact .cons z tk (strs_of l fun u m => h u (List.mem_cons_of_mem _ m))
theorem tset_sorted {Q : Value → Shared → Prop} (R : TSet w s.heap a zs) (hh : A.handled = none)
    (hQ : ∀ s' p (out : Array Value) (c : Nat) (ys : List Str), (∀ b o, s.heap.get? b = some o → s'.heap.get? b = some o) → s'.gens = s.gens → s'.os = s.os → s.heap.objs.size ≤ p →
      s'.heap.get? p = some (seqObj "list" out c) → StrsAre out.toList ys → ys.Perm zs → sortedS ys = true → Q (.ref p) s') :
    wpAny (model P w) A (call (.builtin "sorted") [.ref a]) Q E s := by
  obtain ⟨o, es, ep, t, ho, hex, hd, gd, pz, nz, hb, hf, hr, hl⟩ := R
  refine Calls.call_function_entry kind_sorted plain_sorted entry_sorted (args_sorted1 _) ?_
  unfold Builtin.«sorted»
  refine wpAny_bind (m := checkCount "sorted" 1 1 _) (wpAny_pure ?_)
  refine wpAny_bind (collect_set (A := A.in1) hh ⟨o, ho, hex.1, hd⟩ hf hb hr hl fun s1 vs k1 hz g1 o1 pm => ?_)
  have hvl : vs.length = es.size := by rw [pm.length_eq, List.length_map, Array.length_toList]
  have hS : StrsAre vs (vs.map fun v => tkey (0, v)) := strs_of vs fun v hv => by
    obtain ⟨e, he, q⟩ := List.mem_map.mp (pm.mem_iff.mp hv)
    obtain ⟨z, tk, e1, _⟩ := gd e he
    exact ⟨z, tk, by rw [← q]; exact e1⟩
  have pk : (vs.map fun v => tkey (0, v)).Perm zs := by
    have q := pm.map fun v => tkey (0, v)
    rw [List.map_map] at q
    exact q.trans pz
  have hln : vs.length ≤ sizeLine := by
    rw [hvl]
    exact fits_of_scanBound hb
  refine wpAny_bind (wpAny_newList ?_ hln)
  have hoL : (s1.heap.push (seqObj "list" vs.toArray 0)).get? s1.heap.objs.size = some (seqObj "list" vs.toArray 0) := Heap.get?_push_size _ rfl
  refine wpAny_bind (wpAny_holding (wpAny_call_entry slot_list_sort ⟨_, hoL, rfl⟩ entry_list_sort (list_sort_treeKAny strKind_oneLt hoL hS.keysOf (fun v1 v2 rest e => keyKind_strs (by rw [← e]; exact hS)) hln fun st' hp hs => ⟨_, rfl, ?_⟩) (args_list_sort _)))
  obtain ⟨ys, a1, a2, a3⟩ := sorted_out_str hS hp hs
  generalize (arrOf st').map (·.2) = out at a1 ⊢
  obtain ⟨c, hc⟩ := sortedHeap_at (vs := vs) (out := out) hoL
  refine wpAny_pure ⟨_, rfl, hQ _ s1.heap.objs.size out c ys (fun b u e => ?_) g1 o1 hz hc a1 (a2.trans pk) a3⟩
  have q := k1 b u e
  have hlt := Heap.lt_size q
  show (sortedHeap (s1.heap.push (seqObj "list" vs.toArray 0)) s1.heap.objs.size vs out).get? b = some u
  rw [sortedHeap_old (Nat.ne_of_lt hlt) (by rw [size_push']; exact Nat.lt_succ_of_lt hlt)]
  exact Heap.get?_push_of_some _ q
end

/-! ### over the abstract heap -/
def TSetO (w : World) (a : Addr) (zs : List Str) : HO := .ext fun h => TSet w h a zs
theorem tsetO_new {w : World} {P : Program} {H : Hp} {h : Heap} {a : Addr} {zs : List Str} (R : TSet w h a zs) : ObjOk P w H h a (TSetO w a zs) := by
  have ⟨o, _, _, _, ho, _⟩ := R
  exact ⟨R, ⟨o, ho⟩, fun h1 h2 p k => TSet.there p k⟩
section
variable {X : Cx} {pins : List (Addr × Obj)} {σ : L2.St} {H : Hp} {s : Shared} {zs : List Str}
theorem tsetO_get {a : Addr} (I : Inv X pins σ H s) (ha : H a = some (TSetO X.w a zs)) : TSet X.w s.heap a zs := (I.hok a _ ha).1
theorem tsetO_add {E : Value → Shared → Prop} {D : Addr} {z : Str} {tk : Tok} {Q : Value → Shared → Prop} (I : Inv X pins σ H s) (hD : H D = some (TSetO X.w D zs)) (room : zs.length + 1 < scanBound)
    (h : ∀ s', Inv X pins σ (upd H D (TSetO X.w D (addT zs z))) s' → Q .none s') : wpAny (model X.prog X.w) X.A (call (.builtin "set.add") [.ref D, .str z tk]) Q E s := by
  refine tset_add (tsetO_get I hD) room fun h' sb new => h _ ?_
  have he : ∃ u, h'.get? D = some u := by
    have ⟨o, _, _, _, ho, _⟩ := new
    exact ⟨o, ho⟩
  exact I.write (e := D) (t' := s.toks + 1) (by rw [hD]; trivial) (.inl rfl) (fun b u hb hu => (sb.2 b hb).trans hu) he (tsetO_new new)
/-- sorted(s), s a set of texts -/
def rSortT (w : World) : List V → Hp → VK → Prop := fun vs H Q => ∃ (a : Addr) (zs : List Str), vs = [V.ref a] ∧ H a = some (TSetO w a zs) ∧ zs.length ≤ 100000 ∧
  ∀ (ys : List Str) (p : Addr), ys.Perm zs → sortedS ys = true → H p = none → Q (.ref p) (upd H p (.lst (ys.map V.str)))
theorem cr_sortT (hc : X.calm = true) : CallR X (.builtin "sorted") (rSortT X.w) := by
  intro pins s σ H vs us Q I r h
  obtain ⟨a, zs, rfl, ha, hz, q⟩ := h
  rw [Vals.ref1 r]
  refine tset_sorted (tsetO_get I ha) (I.ok.hd hc) fun s' p out c ys k g o hp hg hS hperm hsrt => ?_
  have hlen : (ys.map V.str).length ≤ sizeLine := by
    rw [List.length_map, hperm.length_eq]
    exact Nat.le_trans hz (by decide)
  have hn : H p = none := I.hok.fresh hp
  have J : Inv X pins σ (upd H p (.lst (ys.map V.str))) { s with heap := s'.heap, gens := s'.gens, drawn := s'.drawn, toks := s'.toks } :=
    I.call (ch := []) (Un.laid k hp hn) (I.hok.laid k hp ⟨hlen, out.toList, c, vals_of_strs hS, hg⟩) (by rw [g]; exact I.bare) (fun _ m => nomatch m)
  have e : s' = { s with heap := s'.heap, gens := s'.gens, drawn := s'.drawn, toks := s'.toks } := by
    cases s'
    cases s
    cases o
    rfl
  rw [e]
  exact ⟨.ref p, _, J, rfl, q ys p hperm hsrt hn⟩
end
end Cs

set_option Elab.async false
set_option linter.all false
set_option maxRecDepth 100000
set_option maxHeartbeats 4000000
/-! {elt for target in iter if ..} where elt is a text. -/
namespace Cs
open PySem PySem.Spec PyProof.Rows L2

/-- one turn of such a comprehension: the text that comes is put into the set at D -/
def tScT (w : World) (wi : TI) (g : TG) (tt : TT) (te : TE) (vs : List Nat) : TE := fun σ H Q => wi σ H fun J H1 => ∀ D, H1 D = none →
  ∃ W : Nat → Nat → Hp → Prop, (∃ m, W 0 m (upd H1 D (TSetO w D []))) ∧ ∀ i m H, W i m H →
  (J.stop i H ∧ Q (.ref D) H) ∨ (J.go i H ∧ ∃ Nx : Hp → Prop, (∀ H', Nx H' → ∃ m', m' < m ∧ W (i + 1) m' H') ∧
    ∀ x H', J.yld i H x H' → g x (wipe σ vs) H' fun σ2 H2 => wipe σ2 vs = wipe σ vs ∧ tt σ2 H2 fun b H3 =>
    if b = true then te σ2 H3 fun y H4 => ∃ (z : Str) (zs : List Str), y = .str z ∧ H4 D = some (TSetO w D zs) ∧ zs.length + 1 < scanBound ∧ Nx (upd H4 D (TSetO w D (addT zs z))) else Nx H3)
section
variable {X : Cx}
theorem scT_core {pins : List (Addr × Obj)} {s : Shared} {σ : L2.St} {H : Hp} {Q : VK} {elt tg iter : Expr} {ifs : List Expr} {scope : Scope} {own : List (PySem.Str × Nat)} {pos pos' : Pos}
    {wi : TI} {g : TG} {tt : TT} {te : TE} {use : Option (Value → Sem Unit)} {Qf : Value → Shared → Prop}
    (hc : X.calm = true) (hN : X.N.Nodup) (I : Inv X pins σ H s) (hi : PI X tg iter wi) (ok : BlkOk X.N X.env.scope scope own)
    (hg : ∀ (s : Shared) (H : Hp) (C : Addr) (cl : List (PySem.Str × Addr)) (fp : List Addr), PG (X.blk s H scope (compEnvC scope cl C X.env) fp) tg g)
    (ht : ∀ (s : Shared) (H : Hp) (C : Addr) (cl : List (PySem.Str × Addr)) (fp : List Addr), PTs (X.blk s H scope (compEnvC scope cl C X.env) fp) ifs tt)
    (he : ∀ (s : Shared) (H : Hp) (C : Addr) (cl : List (PySem.Str × Addr)) (fp : List Addr), PE (X.blk s H scope (compEnvC scope cl C X.env) fp) elt te)
    (hs : ∀ x, foldedSetIterable iter X.env x = pure x) (h : tScT X.w wi g tt te (own.map (·.2)) σ H Q)
    (hRR : ∀ D C s' m H', Inv X pins σ H' s' → Q (.ref D) H' → s'.heap.Ns C m → FpOk X pins H' C → compPost (model X.prog X.w) X.A X.xe use Qf (.ref D) C (.ok .next) s') :
    wpAny (model X.prog X.w) X.A (comprehension (.SetComp elt [⟨tg, iter, ifs, 0⟩] scope pos) scope X.env pos' (newSet (.type "set")) false (eval iter X.env) use) Qf X.xe s := by
  have cells : ∀ y ∈ scope.names, y.2 = .free → ∃ c, X.env.cells.lookup y.1 = some c := fun y hy e => (ok.free y hy e).elim (fun k => I.ok.has _ (.inl k)) fun k => I.ok.has _ (.inr k)
  refine wpAny_comprehension_free (use := use) rfl hs (closure_ok cells) ok.kind (fun y hy e => by rw [ok.uniq y hy, e]) (thn (hi.run pins s σ H _ I h) fun xv sA hx => thn hx fun itv sB hB => ?_)
  obtain ⟨it, fp, tn, J, HB, e, IB, T, stB, fB, q⟩ := hB
  subst e
  refine PpSet.newSet_ok (newEnv_comp ?_)
  generalize hD : sB.heap.objs.size = D
  obtain ⟨W, ⟨m0, w0⟩, turn⟩ := q D (IB.hok.fresh (Nat.le_of_eq hD))
  generalize hsC : ({ sB with heap := sB.heap.push { cls := .type "set", dict := none, data := .set #[] 0 (.fresh 0 0 (!X.w.params.followText "set-order")) } } : Shared) = sC
  have hpC : sC.heap = sB.heap.push { cls := .type "set", dict := none, data := .set #[] 0 (.fresh 0 0 (!X.w.params.followText "set-order")) } := by rw [← hsC]
  generalize hHC : upd HB D (TSetO X.w D []) = HC at w0
  have IC : Inv X pins σ HC sC := by
    rw [← hsC, ← hHC]
    refine IB.laid (t' := sB.toks) (fun b o e => Heap.get?_push_of_some _ e) (Nat.le_of_eq hD) ?_
    rw [← hD]
    exact tsetO_new (tset_fresh X.w)
  have below : ∀ b ∈ fp, b < sB.heap.objs.size := fun b hb => (T.obj _ _ stB b hb).elim fun o z => Heap.lt_size z.1
  have fC : ∀ b ∈ fp, FpOk X pins HC b ∧ b < sC.heap.objs.size := fun b hb => by
    have lt := below b hb
    refine ⟨⟨?_, (fB b hb).2⟩, by rw [hpC, Heap.size_push]; exact Nat.lt_succ_of_lt lt⟩
    rw [← hHC, upd_ne (by rw [← hD]; exact Nat.ne_of_lt lt)]
    exact (fB b hb).1
  have stC : tn 0 sC.heap := T.keep _ _ _ stB fun b _ o e => by rw [hpC]; exact Heap.get?_push_of_some _ e
  have IK := block_start IC ok hN fC
  show codeAny _ _ (.compStart (.SetComp elt [⟨tg, iter, ifs, 0⟩] scope pos) 0 (.ref it) (.ref D) (compEnvC scope (cellsFrom (sC.heap.objs.size + 1) scope.names (cloFrom X.env.cells scope.names [])) sC.heap.objs.size X.env))
    (compPost (model X.prog X.w) X.A X.xe use Qf (.ref D) sC.heap.objs.size) { sC with heap := pushCells (sC.heap.push { cls := .type "dict", data := .dict #[] }) scope.names }
  generalize cellsFrom (sC.heap.objs.size + 1) scope.names (cloFrom X.env.cells scope.names []) = cl at IK ⊢
  have pg := hg sC HC sC.heap.objs.size cl fp
  have pt := ht sC HC sC.heap.objs.size cl fp
  have pe := he sC HC sC.heap.objs.size cl fp
  have nC : ∀ b ∈ fp, HC b = none := fun b hb => (fC b hb).1.1
  generalize hce : compEnvC scope cl sC.heap.objs.size X.env = ce at IK pg pt pe ⊢
  have locals : ce.locals = sC.heap.objs.size := by subst hce; rfl
  generalize hsK : ({ sC with heap := pushCells (sC.heap.push { cls := .type "dict", data := .dict #[] }) scope.names } : Shared) = sK at IK ⊢
  have stK : tn 0 sK.heap := T.keep _ _ _ stC fun b _ o e => by rw [← hsK]; exact pushCells_keeps _ _ _ _ (Heap.get?_push_of_some _ e)
  have stand : ∀ {σ' : L2.St} {H' : Hp} {s' : Shared}, Inv (X.blk sC HC scope ce fp) [] σ' H' s' → (∀ b ∈ fp, H' b = none) → ∀ b ∈ fp, FpOk (X.blk sC HC scope ce fp) [] H' b := fun {σ' H' s'} I' hn b hb =>
    ⟨hn b hb, (I'.ok.exf b hb).1, I'.ok.exfs b hb, .inl hb, fun x c e => (I'.ok.exf b hb).2 x c e, fun p hp => absurd (show p ∈ ([] : List (Addr × Obj)) ++ [] from hp) (by simp)⟩
  have loop : codeAny (model X.prog X.w) X.A (.compLoop (.SetComp elt [⟨tg, iter, ifs, 0⟩] scope pos) 0 (.ref it) (.ref D) ce) (compPost (model X.prog X.w) X.A X.xe use Qf (.ref D) sC.heap.objs.size) sK := by
    refine PpSet.compLoopS_any (fun n s' => ∃ i H', Inv (X.blk sC HC scope ce fp) [] (wipe σ (own.map (·.2))) H' s' ∧ tn i s'.heap ∧ (∀ b ∈ fp, H' b = none) ∧ W i n H') ?_ m0 ⟨0, HC, IK, stK, nC, w0⟩
    rintro n sL ⟨i, HL, IL, stL, nL, wL⟩
    rcases turn i n HL wL with ⟨stop, qq⟩ | ⟨go, Nx, hNx, step⟩
    · refine thnF (T.done (X.blk sC HC scope ce fp) rfl rfl rfl hc i [] sL _ HL (fun _ _ => False) IL (stand IL nL) stL stop) fun r sM ⟨hr, IM⟩ => ?_
      subst hr
      have IX : Inv X pins σ HL sM := IC.call' (ch := fp) IM.os IM.base IM.hok IM.bare fun b hb => ⟨(fC b hb).1.2.2.2.1, (fC b hb).1.2.1, (fC b hb).1.2.2.2.2.1, (fC b hb).1.2.2.2.2.2⟩
      have nl : HL sC.heap.objs.size = none := by
        have z : HL ce.locals = none := IM.free
        rw [locals] at z
        exact z
      obtain ⟨m, hn, _⟩ := IM.loc
      have hn : sM.heap.Ns ce.locals m := hn
      rw [locals] at hn
      exact hRR D sC.heap.objs.size sM m HL IX qq hn (IC.fpOk (Nat.le_refl _) nl)
    · refine thnF (T.item (X.blk sC HC scope ce fp) rfl rfl rfl hc i [] sL _ HL (fun _ _ => False) IL (stand IL nL) stL go) fun r sM ⟨u, hr, hM⟩ => ?_
      subst hr
      refine thnF hM fun _ sN ⟨x, HN, IN, rN, yN, stN, nN⟩ => ?_
      have INp := IN.pinned (stand IN nN) (T.obj _ _ stN)
      refine thnF (pg.run _ sN _ HN x u _ INp rN (step x HN yN)) fun _ sO ⟨σO, HO_, IO_, hwO, qO⟩ => ?_
      refine thnF (pt.run _ sO σO HO_ _ IO_ qO) fun b sP ⟨HP, IP, qP⟩ => ?_
      have fin : ∀ {s' : Shared} {H' : Hp}, Inv (X.blk sC HC scope ce fp) ([] ++ pinsAt fp sN.heap) σO H' s' → Nx H' →
          ∃ m, m < n ∧ ∃ i H', Inv (X.blk sC HC scope ce fp) [] (wipe σ (own.map (·.2))) H' s' ∧ tn i s'.heap ∧ (∀ b ∈ fp, H' b = none) ∧ W i m H' := fun {s' H'} I' nx => by
        obtain ⟨m', hm, w'⟩ := hNx H' nx
        have kept : ∀ b ∈ fp, ∀ o, sN.heap.get? b = some o → s'.heap.get? b = some o ∧ H' b = none := fun b hb o e =>
          let z := I'.pin (b, o) (List.mem_append_right _ (List.mem_append_right _ (mem_pinsAt hb e)))
          ⟨z.1, z.2.1⟩
        refine ⟨m', hm, i + 1, H', (I'.unpinned (pins := [])).weak (by rw [← hwO, wipe_length]) (fun j v e => ?_), T.keep _ _ _ stN fun b hb o e => (kept b hb o e).1, fun b hb => ?_, w'⟩
        · rw [← hwO] at e
          exact (wipe_some e).1
        · exact (T.obj _ _ stN b hb).elim fun o z => (kept b hb o z.1).2
      cases b with
      | false =>
        simp only [Bool.false_eq_true, if_false] at qP ⊢
        exact fin IP qP
      | true =>
        simp only [if_true] at qP ⊢
        refine thnF (pe.run _ sP σO HP _ IP qP) fun v sQ ⟨yv, HQ, IQ, rQ, z, zs, ey, hDQ, hzQ, nx⟩ => ?_
        subst ey
        obtain ⟨tk, rfl⟩ : ∃ tk, v = Value.str z tk := rQ
        exact tsetO_add (X := X.blk sC HC scope ce fp) IQ hDQ hzQ fun sR IR => fin IR nx
  exact PpSet.codeAny_compStart_set loop (T.self X.A 0 _ _ _ stK loop)
theorem pe_scT {elt tg iter : Expr} {ifs : List Expr} {scope : Scope} {own : List (PySem.Str × Nat)} {pos : Pos} {wi : TI} {g : TG} {tt : TT} {te : TE} (hc : X.calm = true) (hN : X.N.Nodup) (hi : PI X tg iter wi)
    (ok : BlkOk X.N X.env.scope scope own)
    (hg : ∀ (s : Shared) (H : Hp) (C : Addr) (cl : List (PySem.Str × Addr)) (fp : List Addr), PG (X.blk s H scope (compEnvC scope cl C X.env) fp) tg g)
    (ht : ∀ (s : Shared) (H : Hp) (C : Addr) (cl : List (PySem.Str × Addr)) (fp : List Addr), PTs (X.blk s H scope (compEnvC scope cl C X.env) fp) ifs tt)
    (he : ∀ (s : Shared) (H : Hp) (C : Addr) (cl : List (PySem.Str × Addr)) (fp : List Addr), PE (X.blk s H scope (compEnvC scope cl C X.env) fp) elt te)
    (hs : ∀ x, foldedSetIterable iter X.env x = pure x := by intro _; rfl) : PE X (.SetComp elt [⟨tg, iter, ifs, 0⟩] scope pos) (tScT X.w wi g tt te (own.map (·.2))) := by
  refine ⟨fun pins s σ H Q I h => ?_⟩
  rw [PpSet.eval_SetComp]
  refine scT_core hc hN I hi ok hg ht he hs h fun D C s' m H' I' q hn f => ⟨m, hn, fun h'' sb => ?_⟩
  obtain ⟨f0, f1, f2, f3, f4, f5⟩ := f
  exact ⟨.ref D, H', I'.turned (t' := s'.toks) (fun b o hb e => (sb.2 b hb).trans e) f0 f1 f3 f4 f5, rfl, q⟩
end
/-- the texts of a list, each once, by first place -/
def once (zs : List Str) : List Str := zs.foldl addT []
theorem once_snoc (zs : List Str) (z : Str) : once (zs ++ [z]) = addT (once zs) z := by
  unfold once
  rw [List.foldl_append]
  rfl
theorem once_len (zs : List Str) : (once zs).length ≤ zs.length := by
  have h : ∀ (l acc : List Str), (l.foldl addT acc).length ≤ acc.length + l.length := by
    intro l
    induction l with
    | nil => intro acc; exact Nat.le_refl _
    | cons z l ih =>
      intro acc
      have e := ih (addT acc z)
      have f : (addT acc z).length ≤ acc.length + 1 := by
        unfold addT
        split
        · omega
        · simp
      show (l.foldl addT (addT acc z)).length ≤ _
      rw [List.length_cons]
      omega
  have := h zs []
  simpa [once] using this
theorem once_mem (zs : List Str) (y : Str) : y ∈ once zs ↔ y ∈ zs := by
  have h : ∀ (l acc : List Str), y ∈ l.foldl addT acc ↔ y ∈ acc ∨ y ∈ l := by
    intro l
    induction l with
    | nil => intro acc; simp
    | cons z l ih =>
      intro acc
      show y ∈ l.foldl addT (addT acc z) ↔ _
      rw [ih]
      unfold addT
      split
      · rename_i m
        simp only [List.mem_cons]
        constructor
        · rintro (a | a)
          · exact .inl a
          · exact .inr (.inr a)
        · rintro (a | a | a)
          · exact .inl a
          · exact .inl (a ▸ m)
          · exact .inr a
      · simp only [List.mem_append, List.mem_cons, List.not_mem_nil, or_false, or_assoc]
  simpa [once] using h zs []
theorem once_nodup (zs : List Str) : (once zs).Nodup := by
  have h : ∀ (l acc : List Str), acc.Nodup → (l.foldl addT acc).Nodup := by
    intro l
    induction l with
    | nil => intro acc h; exact h
    | cons z l ih =>
      intro acc h
      refine ih _ ?_
      unfold addT
      split
      · exact h
      · rename_i m
        exact nd_snoc h m
  exact h zs [] .nil
end Cs

set_option Elab.async false
set_option linter.all false
set_option maxRecDepth 100000
set_option maxHeartbeats 4000000
/-! Plain laws: texts in order, tables of words and integers, what is told of a table. -/
namespace Cs
open PySem L2 PyProof.Rows
/-! ### the order of texts -/
def SLt (a b : Str) : Prop := a.cps.toList < b.cps.toList
theorem slt_irrefl (a : Str) : ¬ SLt a a := List.lt_irrefl _
theorem slt_trans {a b c : Str} (h : SLt a b) (k : SLt b c) : SLt a c := List.lt_trans h k
theorem str_ext {a b : Str} (h : a.cps.toList = b.cps.toList) : a = b := by
  cases a
  cases b
  congr
  exact Array.toList_inj.mp h
theorem slt_total {a b : Str} (h : ¬ SLt b a) (n : a ≠ b) : SLt a b := by
  have h1 : a.cps.toList ≤ b.cps.toList := List.not_lt.mp h
  apply Classical.byContradiction
  intro q
  exact n (str_ext (List.le_antisymm h1 (List.not_lt.mp q)))
theorem slt_of_le_lt {a b c : Str} (h : ¬ SLt b a) (k : SLt b c) : SLt a c := List.lt_of_le_of_lt (List.not_lt.mp h) k
/-- ascending, none twice -/
def Asc (zs : List Str) : Prop := zs.Pairwise SLt
theorem rising_pw : ∀ (r : List Str) (p : Str), risingS p r = true → (p :: r).Pairwise (fun a b => ¬ SLt b a)
  | [], p, _ => List.pairwise_singleton _ _
  | x :: r, p, h => by
    have h : (!PySem.Spec.ltCps x.cps.toList p.cps.toList && risingS x r) = true := h
    rw [Bool.and_eq_true, ltCps_eq] at h
    have ih := rising_pw r x h.2
    have h1 : ¬ SLt x p := by
      have := h.1
      intro q
      rw [decide_eq_true (show x.cps.toList < p.cps.toList from q)] at this
      cases this
    refine List.pairwise_cons.mpr ⟨fun y hy => ?_, ih⟩
    rcases List.mem_cons.mp hy with e | e
    · rw [e]
      exact h1
    · have h2 := (List.pairwise_cons.mp ih).1 y e
      exact fun q => h1 (slt_of_le_lt h2 q)
theorem sorted_pw : ∀ {zs : List Str}, sortedS zs = true → zs.Pairwise (fun a b => ¬ SLt b a)
  | [], _ => .nil
  | x :: r, h => rising_pw r x h
theorem asc_of_sorted {zs : List Str} (h : sortedS zs = true) (n : zs.Nodup) : Asc zs := by
  have a := sorted_pw h
  have b : zs.Pairwise (fun a b => ¬ SLt b a ∧ a ≠ b) := a.and n
  exact b.imp fun h => slt_total h.1 h.2
theorem Asc.nodup {zs : List Str} (h : Asc zs) : zs.Nodup := h.imp fun {a b} (q : SLt a b) (e : a = b) => slt_irrefl a (by rw [← e] at q; exact q)
/-- ascending lists with the same members are one -/
theorem asc_eq : ∀ {xs ys : List Str}, Asc xs → Asc ys → (∀ z, z ∈ xs ↔ z ∈ ys) → xs = ys
  | [], [], _, _, _ => rfl
  | [], y :: ys, _, _, h => absurd ((h y).mpr List.mem_cons_self) (by simp)
  | x :: xs, [], _, _, h => absurd ((h x).mp List.mem_cons_self) (by simp)
  | x :: xs, y :: ys, a, b, h => by
    obtain ⟨a1, a2⟩ := List.pairwise_cons.mp a
    obtain ⟨b1, b2⟩ := List.pairwise_cons.mp b
    have e : x = y := by
      rcases List.mem_cons.mp ((h x).mp List.mem_cons_self) with e | e
      · exact e
      · rcases List.mem_cons.mp ((h y).mpr List.mem_cons_self) with f | f
        · exact f.symm
        · exact absurd (slt_trans (a1 y f) (b1 x e)) (slt_irrefl x)
    subst e
    rw [asc_eq a2 b2 fun z => ?_]
    constructor
    · intro m
      rcases List.mem_cons.mp ((h z).mp (List.mem_cons_of_mem _ m)) with e | e
      · exact absurd (e ▸ a1 z m) (slt_irrefl _)
      · exact e
    · intro m
      rcases List.mem_cons.mp ((h z).mpr (List.mem_cons_of_mem _ m)) with e | e
      · exact absurd (e ▸ b1 z m) (slt_irrefl _)
      · exact e
/-! ### tables -/
abbrev Tab := List (Str × Int)
def keys (t : Tab) : List Str := t.map (·.1)
def look (t : Tab) (z : Str) : Option Int := (t.find? fun q => decide (q.1 = z)).map (·.2)
def val (t : Tab) (z : Str) : Int := (look t z).getD 0
def put (t : Tab) (z : Str) (n : Int) : Tab := if (t.any fun q => decide (q.1 = z)) = true then t.map (fun q => if q.1 = z then (q.1, n) else q) else t ++ [(z, n)]
def drop (t : Tab) (z : Str) : Tab := t.filter fun q => decide (q.1 ≠ z)
theorem look_none : ∀ {t : Tab} {z : Str}, z ∉ keys t → look t z = none
  | [], _, _ => rfl
  | q :: t, z, h => by
    have h1 : q.1 ≠ z := fun e => h (by rw [← e]; exact List.mem_cons_self)
    have h2 : z ∉ keys t := fun m => h (List.mem_cons_of_mem _ m)
    have ih := look_none h2
    unfold look at ih ⊢
    rw [List.find?_cons, decide_eq_false h1]
    exact ih
theorem look_some : ∀ {t : Tab} {z : Str}, z ∈ keys t → ∃ n, look t z = some n ∧ (z, n) ∈ t
  | [], _, h => by simp [keys] at h
  | q :: t, z, h => by
    by_cases e : q.1 = z
    · refine ⟨q.2, ?_, ?_⟩
      · unfold look
        rw [List.find?_cons, decide_eq_true e]
        rfl
      · rw [← e]
        exact List.mem_cons_self
    · have h2 : z ∈ keys t := (List.mem_cons.mp h).resolve_left fun q => e q.symm
      obtain ⟨n, a, b⟩ := look_some h2
      refine ⟨n, ?_, List.mem_cons_of_mem _ b⟩
      unfold look at a ⊢
      rw [List.find?_cons, decide_eq_false e]
      exact a
theorem look_mem {t : Tab} (nd : (keys t).Nodup) {z : Str} {n : Int} (h : (z, n) ∈ t) : look t z = some n := by
  induction t with
  | nil => cases h
  | cons q t ih =>
    obtain ⟨n1, n2⟩ := List.nodup_cons.mp (show (q.1 :: keys t).Nodup from nd)
    rcases List.mem_cons.mp h with e | e
    · subst e
      unfold look
      rw [List.find?_cons, decide_eq_true rfl]
      rfl
    · have h1 : q.1 ≠ z := fun f => n1 (f ▸ List.mem_map.mpr ⟨_, e, rfl⟩)
      have := ih n2 e
      unfold look at this ⊢
      rw [List.find?_cons, decide_eq_false h1]
      exact this
theorem any_keys (t : Tab) (z : Str) : (t.any fun q => decide (q.1 = z)) = decide (z ∈ keys t) := by
  rw [Bool.eq_iff_iff, List.any_eq_true, decide_eq_true_eq]
  constructor
  · rintro ⟨q, m, e⟩
    exact List.mem_map.mpr ⟨q, m, of_decide_eq_true e⟩
  · intro m
    obtain ⟨q, m, e⟩ := List.mem_map.mp m
    exact ⟨q, m, decide_eq_true e⟩
theorem keys_put (t : Tab) (z : Str) (n : Int) : keys (put t z n) = if z ∈ keys t then keys t else keys t ++ [z] := by
  unfold put
  rw [any_keys]
  by_cases h : z ∈ keys t
  · rw [if_pos (decide_eq_true h), if_pos h]
    unfold keys
    rw [List.map_map]
    apply List.map_congr_left
    intro q _
    simp only [Function.comp]
    split <;> rfl
  · rw [if_neg (by simpa using h), if_neg h]
    unfold keys
    rw [List.map_append]
    rfl
theorem mem_keys_put {t : Tab} {z y : Str} {n : Int} : y ∈ keys (put t z n) ↔ y ∈ keys t ∨ y = z := by
  rw [keys_put]
  split
  · rename_i h
    exact ⟨.inl, fun q => q.elim id fun e => e ▸ h⟩
  · rw [List.mem_append, List.mem_singleton]
theorem nd_put {t : Tab} {z : Str} {n : Int} (h : (keys t).Nodup) : (keys (put t z n)).Nodup := by
  rw [keys_put]
  split
  · exact h
  · rename_i m
    exact nd_snoc h m
theorem mem_put {t : Tab} {z y : Str} {n m : Int} (h : (y, m) ∈ put t z n) : (y = z ∧ m = n) ∨ (y ≠ z ∧ (y, m) ∈ t) := by
  unfold put at h
  rw [any_keys] at h
  by_cases k : z ∈ keys t
  · rw [if_pos (decide_eq_true k)] at h
    obtain ⟨q, hq, e⟩ := List.mem_map.mp h
    by_cases c : q.1 = z
    · rw [if_pos c] at e
      left
      exact ⟨by rw [← c]; exact (congrArg Prod.fst e).symm, (congrArg Prod.snd e).symm⟩
    · rw [if_neg c] at e
      right
      subst e
      exact ⟨c, hq⟩
  · rw [if_neg (by simpa using k)] at h
    rcases List.mem_append.mp h with a | a
    · right
      exact ⟨fun e => k (e ▸ List.mem_map.mpr ⟨_, a, rfl⟩), a⟩
    · left
      have := List.mem_singleton.mp a
      exact ⟨congrArg Prod.fst this, congrArg Prod.snd this⟩
theorem look_put {t : Tab} {z y : Str} {n : Int} (h : (keys t).Nodup) : look (put t z n) y = if y = z then some n else look t y := by
  by_cases k : y ∈ keys (put t z n)
  · obtain ⟨m, a, b⟩ := look_some k
    rw [a]
    rcases mem_put b with ⟨e, f⟩ | ⟨e, f⟩
    · rw [if_pos e, f]
    · rw [if_neg e, look_mem h f]
  · rw [look_none k]
    have k2 : ¬ (y ∈ keys t ∨ y = z) := fun q => k (mem_keys_put.mpr q)
    rw [if_neg fun e => k2 (.inr e), look_none fun e => k2 (.inl e)]
theorem val_put {t : Tab} {z y : Str} {n : Int} (h : (keys t).Nodup) : val (put t z n) y = if y = z then n else val t y := by
  unfold val
  rw [look_put h]
  split <;> rfl
theorem keys_drop (t : Tab) (z : Str) : keys (drop t z) = (keys t).filter fun y => decide (y ≠ z) := by
  unfold keys drop
  rw [List.filter_map]
  rfl
theorem nd_drop {t : Tab} {z : Str} (h : (keys t).Nodup) : (keys (drop t z)).Nodup := by
  rw [keys_drop]
  exact h.filter _
theorem look_drop {t : Tab} {z y : Str} (h : (keys t).Nodup) : look (drop t z) y = if y = z then none else look t y := by
  by_cases k : y ∈ keys (drop t z)
  · obtain ⟨m, a, b⟩ := look_some k
    have c := List.mem_filter.mp b
    have d : y ≠ z := of_decide_eq_true c.2
    rw [a, if_neg d, look_mem h c.1]
  · rw [look_none k]
    by_cases e : y = z
    · rw [if_pos e]
    · rw [if_neg e, look_none]
      intro m
      apply k
      rw [keys_drop]
      exact List.mem_filter.mpr ⟨m, decide_eq_true e⟩
theorem val_drop {t : Tab} {z y : Str} (h : (keys t).Nodup) : val (drop t z) y = if y = z then 0 else val t y := by
  unfold val
  rw [look_drop h]
  split <;> rfl
theorem len_put (t : Tab) (z : Str) (n : Int) : (put t z n).length ≤ t.length + 1 := by
  unfold put
  split
  · rw [List.length_map]
    omega
  · rw [List.length_append]
    exact Nat.le_refl _
/-! ### what is told of a table: the words ascending whose integer is not 0 -/
/-- ws holds the table's words, ascending -/
def toldBy (t : Tab) (ws : List Str) : Tab := (ws.filter fun z => decide (val t z ≠ 0)).map fun z => (z, val t z)
/-- l is what is told of a table with these values -/
structure Told (f : Str → Int) (l : Tab) : Prop where
  asc : Asc (keys l)
  mem : ∀ z n, (z, n) ∈ l ↔ n = f z ∧ n ≠ 0
theorem Told.keys_iff {f : Str → Int} {l : Tab} (h : Told f l) (z : Str) : z ∈ keys l ↔ f z ≠ 0 := by
  constructor
  · intro m
    obtain ⟨⟨y, n⟩, hm, e⟩ := List.mem_map.mp m
    have e : y = z := e
    subst e
    obtain ⟨a, b⟩ := (h.mem _ _).mp hm
    rw [← a]
    exact b
  · intro q
    exact List.mem_map.mpr ⟨(z, f z), (h.mem _ _).mpr ⟨rfl, q⟩, rfl⟩
theorem Told.form {f : Str → Int} {l : Tab} (h : Told f l) : l = (keys l).map fun z => (z, f z) := by
  unfold keys
  rw [List.map_map]
  conv => lhs; rw [← List.map_id l]
  apply List.map_congr_left
  intro q m
  have := ((h.mem q.1 q.2).mp m).1
  show q = (q.1, f q.1)
  rw [← this]
theorem told_eq {f g : Str → Int} {l m : Tab} (a : Told f l) (b : Told g m) (h : ∀ z, f z = g z) : l = m := by
  have e : f = g := funext h
  subst e
  have k : keys l = keys m := asc_eq a.asc b.asc fun z => by rw [a.keys_iff, b.keys_iff]
  rw [a.form, b.form, k]
theorem told_of {t : Tab} {ws : List Str} (nd : (keys t).Nodup) (ha : Asc ws) (hm : ∀ z, z ∈ ws ↔ z ∈ keys t) : Told (val t) (toldBy t ws) := by
  have ek : keys (toldBy t ws) = ws.filter fun z => decide (val t z ≠ 0) := by
    unfold keys toldBy
    rw [List.map_map]
    exact List.map_id _
  refine ⟨?_, fun z n => ?_⟩
  · rw [ek]
    exact List.Pairwise.filter _ ha
  · unfold toldBy
    rw [List.mem_map]
    constructor
    · rintro ⟨y, m, e⟩
      have e1 : y = z := congrArg Prod.fst e
      have e2 : val t y = n := congrArg Prod.snd e
      subst e1
      subst e2
      exact ⟨rfl, of_decide_eq_true (List.mem_filter.mp m).2⟩
    · rintro ⟨rfl, q⟩
      refine ⟨z, List.mem_filter.mpr ⟨?_, decide_eq_true q⟩, rfl⟩
      rw [hm]
      apply Classical.byContradiction
      intro k
      exact q (by unfold val; rw [look_none k]; rfl)
/-! ### a table as a dict's pairs -/
def tv (t : Tab) : List (Key × V) := t.map fun q => (Sum.inr q.1, V.int q.2)
theorem tv_len (t : Tab) : (tv t).length = t.length := List.length_map _
theorem tv_val (t : Tab) (z : Str) : valV (tv t) (Sum.inr z) = (look t z).map V.int := by
  unfold valV tv look
  induction t with
  | nil => rfl
  | cons q t ih =>
    rw [List.map_cons, List.find?_cons, List.find?_cons]
    by_cases e : q.1 = z
    · rw [decide_eq_true e, decide_eq_true (show (Sum.inr q.1 : Key) = Sum.inr z by rw [e])]
      rfl
    · rw [decide_eq_false e, decide_eq_false (show ¬ (Sum.inr q.1 : Key) = Sum.inr z from fun f => e (Sum.inr.inj f))]
      exact ih
theorem tv_any (t : Tab) (z : Str) : ((tv t).any fun kv => decide (kv.1 = Sum.inr z)) = t.any fun q => decide (q.1 = z) := by
  unfold tv
  rw [List.any_map]
  congr 1
  funext q
  exact key_rr q.1 z
theorem tv_put (t : Tab) (z : Str) (n : Int) : putK (tv t) (Sum.inr z) (V.int n) = tv (put t z n) := by
  unfold putK put
  rw [tv_any]
  split
  · unfold tv
    rw [List.map_map, List.map_map]
    apply List.map_congr_left
    intro q _
    simp only [Function.comp]
    by_cases e : q.1 = z
    · rw [if_pos e, if_pos (show (Sum.inr q.1 : Key) = Sum.inr z by rw [e])]
    · rw [if_neg e, if_neg (show ¬ (Sum.inr q.1 : Key) = Sum.inr z from fun f => e (Sum.inr.inj f))]
  · unfold tv
    rw [List.map_append]
    rfl
theorem tv_drop (t : Tab) (z : Str) : dropK (tv t) (Sum.inr z) = tv (drop t z) := by
  unfold dropK drop tv
  rw [List.filter_map]
  congr 1
  apply List.filter_congr
  intro q _
  simp only [Function.comp]
  by_cases e : q.1 = z
  · simp [e]
  · have : ¬ (Sum.inr q.1 : Key) = Sum.inr z := fun f => e (Sum.inr.inj f)
    simp [e, this]
/-- pairs added up word by word -/
def addUp (ps : List (Str × Int)) : Tab := ps.foldl (fun t q => put t q.1 (val t q.1 + q.2)) []
/-- the integers of a word in pairs -/
def sumOf (ps : List (Str × Int)) (z : Str) : Int := ((ps.filter fun q => decide (q.1 = z)).map (·.2)).sum
theorem addUp_snoc (ps : List (Str × Int)) (q : Str × Int) : addUp (ps ++ [q]) = put (addUp ps) q.1 (val (addUp ps) q.1 + q.2) := by
  unfold addUp
  rw [List.foldl_append]
  rfl
theorem snoc_rec {α : Type} {C : List α → Prop} (h0 : C []) (h1 : ∀ l a, C l → C (l ++ [a])) : ∀ l, C l := by
  intro l
  have : ∀ n (l : List α), l.length = n → C l := by
    intro n
    induction n with
    | zero => intro l hl; rw [List.length_eq_zero_iff.mp hl]; exact h0
    | succ n ih =>
      intro l hl
      have hne : l ≠ [] := by intro e; rw [e] at hl; cases hl
      rw [← List.dropLast_concat_getLast hne]
      exact h1 _ _ (ih _ (by rw [List.length_dropLast, hl]; rfl))
  exact this _ l rfl
theorem addUp_nd : ∀ ps, (keys (addUp ps)).Nodup := snoc_rec List.nodup_nil fun l a h => by
  rw [addUp_snoc]
  exact nd_put h
theorem addUp_val (z : Str) : ∀ ps, val (addUp ps) z = sumOf ps z := snoc_rec rfl fun l a h => by
  rw [addUp_snoc, val_put (addUp_nd l)]
  unfold sumOf at h ⊢
  rw [List.filter_append, List.map_append, List.sum_append]
  by_cases e : a.1 = z
  · rw [if_pos e.symm]
    subst e
    rw [h]
    simp
  · rw [if_neg fun q => e q.symm, h]
    simp [e]
theorem addUp_len : ∀ ps, (addUp ps).length ≤ ps.length := snoc_rec (Nat.le_refl _) fun l a h => by
  rw [addUp_snoc, List.length_append]
  exact Nat.le_trans (len_put _ _ _) (Nat.succ_le_succ h)
/-- without zeros -/
def noZero (t : Tab) : Tab := t.filter fun q => decide (q.2 ≠ 0)
theorem noZero_nd {t : Tab} (h : (keys t).Nodup) : (keys (noZero t)).Nodup := by
  unfold keys noZero
  exact List.Nodup.sublist ((List.filter_sublist).map _) h
theorem noZero_mem {t : Tab} {q : Str × Int} : q ∈ noZero t ↔ q ∈ t ∧ q.2 ≠ 0 := by
  unfold noZero
  rw [List.mem_filter, decide_eq_true_eq]
theorem noZero_val {t : Tab} (h : (keys t).Nodup) (z : Str) : val (noZero t) z = val t z := by
  unfold val
  by_cases k : z ∈ keys (noZero t)
  · obtain ⟨n, a, b⟩ := look_some k
    rw [a, look_mem h (noZero_mem.mp b).1]
  · rw [look_none k]
    by_cases m : z ∈ keys t
    · obtain ⟨n, a, b⟩ := look_some m
      rw [a]
      by_cases e : n = 0
      · rw [e]
        rfl
      · exact absurd (List.mem_map.mpr ⟨(z, n), noZero_mem.mpr ⟨b, e⟩, rfl⟩) k
    · rw [look_none m]
/-- a table as Counts hold it -/
structure Held (t : Tab) : Prop where
  nd : (keys t).Nodup
  nz : ∀ q ∈ t, q.2 ≠ 0
theorem Held.of {t : Tab} (h : (keys t).Nodup) : Held (noZero t) := ⟨noZero_nd h, fun q m => (noZero_mem.mp m).2⟩
theorem Held.keys_iff {t : Tab} (h : Held t) (z : Str) : z ∈ keys t ↔ val t z ≠ 0 := by
  unfold val
  constructor
  · intro m
    obtain ⟨n, a, b⟩ := look_some m
    rw [a]
    exact h.nz _ b
  · intro q
    apply Classical.byContradiction
    intro m
    rw [look_none m] at q
    exact q rfl
/-- the pairs of held counts, by their words ascending -/
theorem Held.told {t : Tab} (h : Held t) {ws : List Str} (ha : Asc ws) (hm : ∀ z, z ∈ ws ↔ z ∈ keys t) : Told (val t) (ws.map fun z => (z, val t z)) := by
  have := told_of h.nd ha hm
  unfold toldBy at this
  rw [List.filter_eq_self.mpr] at this
  · exact this
  · intro z m
    exact decide_eq_true ((h.keys_iff z).mp ((hm z).mp m))
end Cs

set_option Elab.async false
set_option linter.all false
set_option maxRecDepth 100000
set_option maxHeartbeats 4000000
/-! What an own class's special methods do: len(o), o[i], o[i] = v; classes called with a starred list. -/
namespace Cs
open PySem PySem.Spec PyProof.Rows L2
/-- a special method of the class at C -/
structure Spc (K : PySem.W.Frag) (C : Addr) (m : Str) (f : Addr) : Prop where
  at_ : PySem.W.findIn K (.ref C) m = some (some (.ref f))
  fn : PySem.W.isFn K (.ref f) = true
section
variable {X : Cx} {CX : CXT} {k i : Nat} {f C g : Addr} {fd : FuncData} {ps : List Str} {sp : Sp} {dvs : List V} {ds : List Value} {E : XK} {x m : Str} {e o : Expr} {es : List Expr} {te ta : TE} {t : TA} {p sp_ pos apos : Pos}
/-- a def run one level down -/
theorem run_fn1 {pins : List (Addr × Obj)} {σ : L2.St} {H : Hp} {s : Shared} {Q : VK} {us : List Value} {vs : List V} (F : FnOk X.prog X.w X.K X.mg X.base CX k f fd ps sp) (hr : Room (k + 1) X.A) (hb : Binds X.K fd ps []) (hx : Passes CX X E)
    (I : Inv X pins σ H s) (r : Vals vs us) (h : sp vs H Q E) : wpAny (model X.prog X.w) X.A.in1 (call (.ref f) us) (EP X pins σ Q) X.xe s := by
  have hl : us.length = ps.length := by rw [← r.length]; exact F.len _ _ _ _ h
  have hb' := hb s us I.kIn (by rw [List.append_nil]; exact hl)
  rw [List.append_nil] at hb'
  refine wpAny_call (codeAny_mono (F.run X.A.in1 X.stack s H ⟨us, []⟩ us vs Q E hr.in1 I.env0.in1 hb' r h) fun r s' hq => ?_)
  cases r with
  | error e => exact hx pins σ H s e s' I hq
  | ok fl =>
    cases fl with
    | ret u => exact I.after hq
    | next => exact False.elim hq
    | brk => exact False.elim hq
    | cont => exact False.elim hq
theorem ins_inst {pins : List (Addr × Obj)} {σ : L2.St} {H : Hp} {s : Shared} {a dx : Addr} {fs : List (Str × V)} (I : Inv X pins σ H s) (h : H a = some (.ins C dx fs)) : ∃ ox od, PySem.W.InstAt s.heap a ox C od ∧ ox.data = .plain := by
  obtain ⟨mA, O, _⟩ := ins_get I.hok h
  obtain ⟨od, J, _⟩ := O.look
  exact ⟨_, _, J, rfl⟩
/-- len(o) by an own __len__ -/
def rLenO (C : Addr) (sp : Sp) (E : XK) : List V → Hp → VK → Prop := fun xs H Q => ∃ a dx fs, xs = [.ref a] ∧ H a = some (.ins C dx fs) ∧ sp [.ref a] H (fun v H2 => ∃ n : Int, v = .int n ∧ (0 ≤ n ∧ n < 2 ^ 63) ∧ Q (.int n) H2) E
theorem call_lenO (c : Spc X.K C "__len__" f) (F : FnOk X.prog X.w X.K X.mg X.base CX k f fd ps sp) (hr : Room (k + 1) X.A) (hb : Binds X.K fd ps []) (hx : Passes CX X E) : CallR X (.builtin "len") (rLenO C sp E) := by
  intro pins s σ H xs us Q I r h
  obtain ⟨a, dx, fs, rfl, ha, q⟩ := h
  rw [Vals.ref1 r]
  obtain ⟨ox, od, J, _⟩ := ins_inst I ha
  obtain ⟨m, Fr⟩ := I.fr
  refine PySem.W.len_K Fr I.ok.mod.kin J c.at_ c.fn (wpAny_mono (run_fn1 (us := [.ref a]) (vs := [.ref a]) F hr hb hx I (.cons rfl .nil) q) (fun v s' z => ?_) fun _ _ z => z)
  obtain ⟨v0, H2, I2, rv, n, e, hn, q2⟩ := z
  subst e
  obtain ⟨tk, rfl⟩ := rv
  exact ⟨hn, .int n, H2, I2.tok _, ⟨_, rfl⟩, q2⟩
/-- o[i] = v by an own __setitem__ -/
def rSetO (C : Addr) (sp : Sp) (E : XK) : V → V → V → Hp → (Hp → Prop) → Prop := fun o i v H Q => ∃ a dx fs, o = .ref a ∧ H a = some (.ins C dx fs) ∧ sp [.ref a, i, v] H (fun _ H2 => Q H2) E
theorem set_own (c : Spc X.K C "__setitem__" f) (hq : PySem.W.noSeq X.K C = true) (F : FnOk X.prog X.w X.K X.mg X.base CX k f fd ps sp) (hr : Room k X.A) (hb : Binds X.K fd ps []) (hx : Passes CX X E) : PSet X (rSetO C sp E) := by
  intro pins s σ H o i v ov iv u Q I ro ri rv h
  obtain ⟨a, dx, fs, rfl, ha, q⟩ := h
  cases ro
  obtain ⟨ox, od, J, _⟩ := ins_inst I ha
  obtain ⟨m, Fr⟩ := I.fr
  refine PySem.W.ksp_setItem Fr I.ok.mod.kin J hq c.at_ c.fn ?_
  refine wpAny_mono (run_fn (us := [.ref a, iv, u]) (vs := [.ref a, i, v]) (dvs := []) F hr hb .nil hx I (.cons rfl (.cons ri (.cons rv .nil))) q) (fun v s' z => ?_) fun _ _ z => z
  obtain ⟨v0, H2, I2, _, q2⟩ := z
  exact ⟨H2, I2, q2⟩
/-- C(*y), C a class of the module -/
def tMkS (K : PySem.W.Frag) (C : Addr) (sp : Sp) (E : XK) (te : TE) : TE := fun σ H Q => te σ H fun y H1 => ∃ a xs, y = V.ref a ∧ (SqT K H1 a xs ∨ SqL K H1 a xs) ∧ ∀ x dx, H1 x = none → H1 dx = none → dx ≠ x →
  sp (V.ref x :: xs) (upd (upd H1 dx (.own x)) x (.ins C dx [])) (fun v H2 => v = .non ∧ Q (.ref x) H2) E
theorem pe_mkS (M : Mk X.K C f) (F : FnR X.prog X.w X.K X.mg X.base CX k f sp) (hr : Room (k + 1) X.A) (hg : Gl X x) (hm : X.mg x = some (.ref C)) (hx : Passes CX X E) (he : PE X e te) (hd : (x == ("__debug__" : Str)) = false := by decide)
    (hst : starEach [.Starred e sp_] X.env = [(true, eval e X.env)] := by rfl) : PE X (.Call (.Name x p) [.Starred e sp_] [] pos) (tMkS X.K C sp E te) := by
  refine ⟨fun pins s σ H Q I h => ?_⟩
  refine wpAny_Call_Name_kw (ld_glob I hg hm ?_ hd)
  refine PySem.W.callWith_S (h₀ := X.base) I.ok.mod.kin M.kp (thn (he.run pins s σ H _ I h) fun v s1 ⟨y, H1, I1, ry, a, xs, ey, hxs, q⟩ => ?_) hst
  subst ey
  obtain rfl : v = Value.ref a := ry
  exact StX.star_any I1 hxs fun us s2 I2 rv => ⟨I2.kIn, StX.run_makeR M F hr hx I2 rv q⟩
/-- c(*y), c a local name that holds the class -/
theorem pe_mkSL (M : Mk X.K C f) (F : FnR X.prog X.w X.K X.mg X.base CX k f sp) (hr : Room (k + 1) X.A) (hN : X.N[i]? = some x) (hv : Vis X.env.scope x) (hx : Passes CX X E) (he : PE X e te) (hdb : (x == ("__debug__" : Str)) = false := by decide)
    (hcd : (x == ("__classdict__" : Str)) = false := by decide) (hst : starEach [.Starred e sp_] X.env = [(true, eval e X.env)] := by rfl) :
    PE X (.Call (.Name x p) [.Starred e sp_] [] pos) (fun σ H Q => σ[i]? = some (some (.ref C)) ∧ tMkS X.K C sp E te σ H Q) := by
  refine ⟨fun pins s σ H Q I h => ?_⟩
  obtain ⟨hs, h⟩ := h
  refine wpAny_Call_Name_kw (thn ((pe_var (pos := p) hN hv hdb hcd).run pins s σ H (fun v H1 => v = .ref C ∧ H1 = H) I ⟨.ref C, hs, rfl, rfl⟩) fun u s0 ⟨v, H0, I0, r0, q0⟩ => ?_)
  obtain ⟨rfl, rfl⟩ := q0
  cases r0
  refine PySem.W.callWith_S (h₀ := X.base) I.ok.mod.kin M.kp (thn (he.run pins s0 σ _ _ I0 h) fun v s1 ⟨y, H1, I1, ry, a, xs, ey, hxs, q⟩ => ?_) hst
  subst ey
  obtain rfl : v = Value.ref a := ry
  exact StX.star_any I1 hxs fun us s2 I2 rv => ⟨I2.kIn, StX.run_makeR M F hr hx I2 rv q⟩
/-- C(), by a positional promise -/
theorem pe_mkR0 (M : Mk X.K C f) (F : FnR X.prog X.w X.K X.mg X.base CX k f sp) (hr : Room (k + 1) X.A) (hg : Gl X x) (hm : X.mg x = some (.ref C)) (hx : Passes CX X E) (hdb : (x == ("__debug__" : Str)) = false := by decide) :
    PE X (.Call (.Name x p) [] [] pos) (StX.tMakeR C sp E tNil) := by
  refine ⟨fun pins s σ H Q I h => ?_⟩
  refine wpAny_Call_Name_kw (ld_glob I hg hm ?_ hdb)
  exact PySem.W.callWith_K0 I.kIn M.kp (StX.run_makeR (us := []) M F hr hx I .nil h)
/-- o.m() by a positional promise -/
theorem pe_methR0 {pl : Sem Bool} (he : PE X o ta) (c : Cls X.K C) (hm : Meth X.K C m f) (F : FnR X.prog X.w X.K X.mg X.base CX k f sp) (hr : Room k X.A) (hx : Passes CX X E)
    (ht : eval (.Call (.Attribute o m apos) [] [] pos) X.env = (do
      let ov ← eval o X.env
      standAt apos.atName
      let (f, first) ← holding [ov] (getMethod ov m pl)
      callWith pos f first (backTo pos (starEach [] X.env)) (backToKw pos (keywordEach [] X.env))) := by rfl) :
    PE X (.Call (.Attribute o m apos) [] [] pos) (tMethR C m sp E ta tNil) := by
  refine ⟨fun pins s σ H Q I h => ?_⟩
  refine PySem.W.methodCall_KW (pl := pl) (thn (he.run pins s σ H _ I h) fun u s1 ⟨x, H1, I1, rx, a, dx, fs, ex, ea, l, q⟩ => ?_) ht
  subst ex
  obtain rfl : u = Value.ref a := rx
  refine getmeth_ok I1 ea c hm l ?_
  exact PySem.W.callWith_K0 (first := [.ref a]) I1.kIn hm.kp (wpAny_call (run_fnR (us := [.ref a]) (vs := [.ref a]) F hr hx I1 (.cons rfl .nil) q))
end
end Cs

set_option Elab.async false
set_option linter.all false
set_option maxRecDepth 100000
set_option maxHeartbeats 4000000
/-! The law's draws: a source is a list of the script's cells and three numbers. -/
namespace Cs
open PySem L2
/-- the builtins and helper defs that are reached, by what the module's names hold -/
structure Bi (mg : Str → Option Value) : Prop where
  len : mg "len" = none
  int : mg "int" = none
  abs : mg "abs" = none
  list : mg "list" = none
  range : mg "range" = none
  sorted : mg "sorted" = none
  str : mg "str" = none
  isinstance : mg "isinstance" = none
  sum : mg "sum" = none
  tuple : mg "tuple" = none
  dict : mg "dict" = none
  all : mg "all" = none
  bool : mg "bool" = none
  enumerate : mg "enumerate" = none
/-- all but what stands at p is as it was -/
def Kp (p : Addr) (H H' : Hp) : Prop := ∀ b o, H b = some o → b ≠ p → H' b = some o
theorem Kp.refl (p : Addr) (H : Hp) : Kp p H H := fun _ _ h _ => h
theorem Kp.trans {p : Addr} {H H1 H2 : Hp} (a : Kp p H H1) (b : Kp p H1 H2) : Kp p H H2 := fun c o h n => b c o (a c o h n) n
theorem Kp.of {p : Addr} {H H1 : Hp} (a : Same H H1) : Kp p H H1 := fun c o h _ => a c o h
theorem Kp.upd {p : Addr} {H : Hp} {o : HO} : Kp p H (upd H p o) := fun c u h n => by rw [upd_ne n]; exact h
theorem Kp.seq {K : PySem.W.Frag} {p a : Addr} {H H' : Hp} {xs : List V} (k : Kp p H H') (h : SqL K H a xs) (n : a ≠ p) : SqL K H' a xs := by
  rcases h with (h | ⟨o, h⟩) | h
  · exact .inl (.inl (k _ _ h n))
  · exact .inl (.inr ⟨o, k _ _ h n⟩)
  · exact .inr h
theorem Same.new {H : Hp} {p : Addr} {o : HO} (h : H p = none) : Same H (L2.upd H p o) := fun b u e => by
  rw [upd_ne (ne_of_none e h)]
  exact e
/-- a source of draws at p, its cells at c -/
def Src (H : Hp) (p c : Addr) : Prop := ∃ (ns : List Int) (i l n : Int), H p = some (.lst [.ref c, .int i, .int l, .int n]) ∧ H c = some (.lst (ns.map V.int)) ∧ c ≠ p ∧ 0 ≤ i ∧ 0 ≤ l
theorem Src.keep {H H' : Hp} {p c : Addr} (h : Src H p c) (s : ∀ b o, (b = p ∨ b = c) → H b = some o → H' b = some o) : Src H' p c := by
  obtain ⟨ns, i, l, n, a, b, r⟩ := h
  exact ⟨ns, i, l, n, s _ _ (.inl rfl) a, s _ _ (.inr rfl) b, r⟩
theorem Src.same {H H' : Hp} {p c : Addr} (s : Same H H') (h : Src H p c) : Src H' p c := h.keep fun b o _ e => s b o e
theorem Src.at_p {H : Hp} {p c : Addr} (h : Src H p c) : ∃ xs, H p = some (.lst xs) := by
  obtain ⟨ns, i, l, n, a, _⟩ := h
  exact ⟨_, a⟩
theorem Src.at_c {H : Hp} {p c : Addr} (h : Src H p c) : ∃ xs, H c = some (.lst xs) := by
  obtain ⟨ns, i, l, n, a, b, _⟩ := h
  exact ⟨_, b⟩
theorem Src.new_p {H : Hp} {p c q : Addr} (h : Src H p c) (n : H q = none) : q ≠ p := by
  obtain ⟨xs, e⟩ := h.at_p
  exact (ne_of_none e n).symm
theorem Src.new_c {H : Hp} {p c q : Addr} (h : Src H p c) (n : H q = none) : q ≠ c := by
  obtain ⟨xs, e⟩ := h.at_c
  exact (ne_of_none e n).symm
theorem Src.tup_p {H : Hp} {p c t : Addr} {xs : List V} (h : Src H p c) (e : H t = some (.tup xs)) : t ≠ p := by
  obtain ⟨ys, a⟩ := h.at_p
  rintro rfl
  rw [e] at a
  cases a
theorem atI0 {α : Type} {a b c d : α} : atI [a, b, c, d] 0 = some a := rfl
theorem atI1 {α : Type} {a b c d : α} : atI [a, b, c, d] 1 = some b := rfl
theorem atI2 {α : Type} {a b c d : α} : atI [a, b, c, d] 2 = some c := rfl
theorem atI3 {α : Type} {a b c d : α} : atI [a, b, c, d] 3 = some d := rfl

def spMixed : Sp := fun vs H Q _ => ∃ c n : Int, vs = [.int c, .int n] ∧ ∀ v : Int, Q (.int v) H
def spDraw : Sp := fun vs H Q _ => ∃ (p c : Addr) (n : Int), vs = [.ref p, .int n] ∧ Src H p c ∧ 0 < n ∧ n < 1329227995784915872903807060280344576 ∧ ∀ (v : Int) (H' : Hp), 0 ≤ v → v < n → Src H' p c → Kp p H H' → Q (.int v) H'
def spSource (K : PySem.W.Frag) : Sp := fun vs H Q _ => ∃ (a : Addr) (ns : List Int), vs = [.ref a] ∧ SqL K H a (ns.map V.int) ∧ ∀ (p c : Addr) (H' : Hp), H p = none → H c = none → Same H H' → Src H' p c → Q (.ref p) H'

section
variable {P : Program} {w : World} {K : PySem.W.Frag} {mg : Str → Option Value} {base : Heap}
theorem ok_mixed {f : Addr} {fd : FuncData} (F : Fun K "_law_mixed" "_law_mixed" s_l_mixed f fd) (g : Bi mg) : FnOk P w K mg base CX0 1 f fd ["_law_cell", "_law_count"] spMixed := by
  refine F.ok sc_l_mixed (fun vs H Q E h => ?_) (fun cdv A outer s H vs Q E hr h => ?_)
  · obtain ⟨_, _, rfl, _⟩ := h
    rfl
  · obtain ⟨c, n, rfl, k⟩ := h
    refine ⟨_, (pss_cons (ps_if (pt_cmpR op_eq (pv 0) pe_int (nomark _)) (pss_one (ps_ret pe_int)) pss_nil)
      (pss_cons (ps_set (i := 2) sc_l_mixed.nd rfl (Or.inl rfl) (pe_op op_mod (pe_callTy call_int1 (by rfl) g.int (by decide +kernel) (pa_cons (pe_op op_add (pe_op op_mul (pv 0) pe_int) (pe_op op_mul (pv 1) pe_int)) pa_nil)) pe_int))
      (pss_one (ps_ret (pe_op op_fdiv (pe_op op_mod (pe_callTy call_int1 (by rfl) g.int (by decide +kernel) (pa_cons (pe_op op_add (pe_op op_add (pe_op op_mul (pv 2) pe_int) (pe_op op_mul (pe_op op_fdiv (pv 2) pe_int) (pv 1))) pe_int) pa_nil)) pe_int) pe_int))))), ?_⟩
    refine ⟨_, rfl, rfl, _, rfl, ite2 (fun _ => k _) (fun _ => ?_)⟩
    refine ⟨_, rfl, _, _, rfl, rfl, .inr ⟨by decide, by decide⟩, _, rfl, _, _, rfl, rfl, .inr ⟨by decide, by decide⟩, _, _, rfl, rfl, Or.inl ⟨_, rfl, _, _, rfl, rfl, (by show (0 : Int) < 2147483647; decide), ?_⟩⟩
    generalize hf : (c * 48271 + n * 69621) % 2147483647 = a
    have h0 : 0 ≤ a := by rw [← hf]; exact Int.emod_nonneg _ (by decide)
    have h1 : a < 2147483647 := by rw [← hf]; exact Int.emod_lt_of_pos _ (by decide)
    refine ⟨_, rfl, _, _, rfl, rfl, .inr ⟨by decide, by decide⟩, _, rfl, _, _, rfl, rfl, ⟨by decide, by decide⟩, _, rfl, _, _, rfl, rfl, .inl ⟨by omega, by omega⟩, _, _, rfl, rfl, _, _, rfl, rfl, Or.inl ⟨_, rfl, _, _, rfl, rfl, (by show (0 : Int) < 2147483399; decide), _, _, rfl, rfl, ⟨by decide, by decide⟩, k _⟩⟩
theorem ok_source {f : Addr} {fd : FuncData} (F : Fun K "_law_source" "_law_source" s_l_source f fd) (g : Bi mg) : FnOk P w K mg base CX0 1 f fd ["_law_script"] (spSource K) := by
  refine F.ok sc_l_source (fun vs H Q E h => ?_) (fun cdv A outer s H vs Q E hr h => ?_)
  · obtain ⟨_, _, rfl, _⟩ := h
    rfl
  · obtain ⟨a, ns, rfl, hS, k⟩ := h
    refine ⟨_, (pss_one (ps_ret (pe_lst (pa_cons (pe_callTy call_list_of (by rfl) g.list (by decide +kernel) (pa_cons (pe_slice sl_list (pv 0) po_none (po_some pe_int)) pa_nil)) (pa_cons pe_int (pa_cons pe_int (pa_cons pe_int pa_nil))))))), ?_⟩
    refine ⟨_, rfl, _, rfl, a, _, rfl, hS, fun q hq => ⟨q, _, rfl, .inl (SqL.of upd_same), fun c hc => ⟨by show 4 ≤ sizeLine; decide, fun p hp => ?_⟩⟩⟩
    have s1 : Same H (upd H q (.lst (cutV (ns.map V.int) none (some 63)))) := Same.new hq
    have s2 := s1.trans (Same.new (o := .lst (cutV (ns.map V.int) none (some 63))) hc)
    have s3 := s2.trans (Same.new (o := .lst [.ref c, .int 0, .int 0, .int 0]) hp)
    have ncp : c ≠ p := ne_of_none (H := upd _ c _) upd_same hp
    obtain ⟨ms, em⟩ : ∃ ms : List Int, cutV (ns.map V.int) none (some 63) = ms.map V.int := by
      unfold cutV
      rw [← List.map_drop, ← List.map_take]
      exact ⟨_, rfl⟩
    refine k p c _ (s2.free hp) (s1.free hc) s3 ⟨ms, 0, 0, 0, upd_same, ?_, ncp, by decide, by decide⟩
    rw [upd_ne ncp, upd_same, em]
theorem ok_draw {f fM : Addr} {fd fdM : FuncData} (F : Fun K "_law_draw" "_law_draw" s_l_draw f fd) (g : Bi mg) (FM : Fun K "_law_mixed" "_law_mixed" s_l_mixed fM fdM) (mM : mg "_law_mixed" = some (.ref fM)) (bM : Binds K fdM ["_law_cell", "_law_count"] []) :
    FnOk P w K mg base CX0 2 f fd ["_law_source_here", "_law_size"] spDraw := by
  have GM : FnOk P w K mg base CX0 1 fM fdM ["_law_cell", "_law_count"] spMixed := ok_mixed FM g
  refine F.ok sc_l_draw (fun vs H Q E h => ?_) (fun cdv A outer s H vs Q E hr h => ?_)
  · obtain ⟨_, _, _, rfl, _⟩ := h
    rfl
  · obtain ⟨p, c, n, rfl, ⟨ns, i, l, m, hp, hc, ncp, hi, hl⟩, n0, n1, k⟩ := h
    have hrM : Room 1 _ := hr.mono (by decide)
    refine ⟨_, (pss_cons (ps_asg (pe_op op_add (pe_ix ix_list (pv 0) pe_int (fun _ _ => rfl)) pe_int) (pg_sub (pv 0) pe_int set_list))
      (C8.pss_cut (ps_if (PW.pt (pw_and (pt_cmpR op_eq (pe_ix ix_list (pv 0) pe_int (fun _ _ => rfl)) pe_int (nomark _)) (pw_and1 (pt_cmpR op_gt (pe_callB call_len (by rfl) g.len PySem.boot_len (pa_cons (pe_ix ix_list (pv 0) pe_int (fun _ _ => rfl)) pa_nil)) pe_int (nomark _))))) (pss_cons (ps_set (i := 2) sc_l_draw.nd rfl (Or.inl rfl) (pe_ix ix_list (pv 0) pe_int (fun _ _ => rfl)))
      (pss_cons (ps_set (i := 3) sc_l_draw.nd rfl (Or.inl rfl) (pe_ix ix_list (pe_ix ix_list (pv 0) pe_int (fun _ _ => rfl)) (pe_op op_mod (pe_callTy call_int1 (by rfl) g.int (by decide +kernel) (pa_cons (pv 2) pa_nil)) (pe_callB call_len (by rfl) g.len PySem.boot_len (pa_cons (pe_ix ix_list (pv 0) pe_int (fun _ _ => rfl)) pa_nil))) (fun _ _ => rfl)))
      (pss_cons (ps_asg (pe_op op_add (pv 2) pe_int) (pg_sub (pv 0) pe_int set_list))
      (pss_one (ps_if (PW.pt (pw_and (pt_cmpR op_lt (pv 2) (pe_callB call_len (by rfl) g.len PySem.boot_len (pa_cons (pe_ix ix_list (pv 0) pe_int (fun _ _ => rfl)) pa_nil)) (nomark _)) (pw_and1 (pt_cmpR op_ge (pe_callB call_abs (by rfl) g.abs (by decide +kernel) (pa_cons (pv 3) pa_nil)) (pe_op op_pow pe_int pe_int) (nomark _))))) (pss_one (ps_asg (pe_callB call_abs (by rfl) g.abs (by decide +kernel) (pa_cons (pv 3) pa_nil)) (pg_sub (pv 0) pe_int set_list))) (pss_one (ps_ret (pe_op op_mod (pe_callTy call_int1 (by rfl) g.int (by decide +kernel) (pa_cons (pe_call GM hrM rfl mM FM.kp bM .nil pass0 (pa_cons (pv 3) (pa_cons (pe_ix ix_list (pv 0) pe_int (fun _ _ => rfl)) pa_nil))) pa_nil)) (pv 1))))))))) pss_nil)
      (pss_cons (ps_set (i := 4) sc_l_draw.nd rfl (Or.inl rfl) (pe_op op_mod (pe_callTy call_int1 (by rfl) g.int (by decide +kernel) (pa_cons (pe_ix ix_list (pv 0) pe_int (fun _ _ => rfl)) pa_nil)) (pv 1)))
      (pss_cons (ps_asg (pe_op op_fdivW (pe_ix ix_list (pv 0) pe_int (fun _ _ => rfl)) (pv 1)) (pg_sub (pv 0) pe_int set_list))
      (pss_one (ps_ret (pv 4))))))), ?_⟩
    have c1 : ∀ o, (upd H p o) c = some (.lst (ns.map V.int)) := fun o => by rw [upd_ne ncp]; exact hc
    have q1 : ∀ xs, SqL K (upd H p (.lst xs)) p xs := fun xs => SqL.of upd_same
    have q2 : ∀ o, SqL K (upd H p o) c (ns.map V.int) := fun o => SqL.of (c1 o)
    refine ⟨_, rfl, p, _, _, _, rfl, rfl, SqL.of hp, atI3, _, _, rfl, rfl, _, rfl, p, _, _, 3, rfl, rfl, hp, rfl, ?_⟩
    have e1 : ([V.ref c, .int i, .int l, .int m].set 3 (.int (m + 1))) = [V.ref c, .int i, .int l, .int (m + 1)] := rfl
    rw [e1]
    refine ⟨fun σ' H2 => ∃ x2 x3 x4 j l2, σ' = [some (.ref p), some (.int n), x2, x3, x4] ∧ H2 p = some (.lst [.ref c, .int j, .int l2, .int (m + 1)]) ∧ H2 c = some (.lst (ns.map V.int)) ∧ 0 ≤ j ∧ 0 ≤ l2 ∧ Kp p H H2, ?_, ?_⟩
    · refine ⟨_, rfl, p, _, _, _, rfl, rfl, q1 _, atI2, rfl, _, rfl, ?_⟩
      refine ite2 (fun z => ?_) (fun z => ?_)
      · refine ⟨_, rfl, p, _, _, _, rfl, rfl, q1 _, atI0, _, _, rfl, .inl ⟨_, q2 _, rfl⟩, _, _, rfl, rfl, _, rfl, ?_⟩
        rw [List.length_map]
        refine ite2 (fun z2 => ?_) (fun z2 => ?_)
        · have hlen : 0 < ns.length := by simpa using z2
          refine ⟨_, rfl, p, _, _, _, rfl, rfl, q1 _, atI1, ?_⟩
          have hx0 : 0 ≤ i % (ns.length : Int) := Int.emod_nonneg _ (by omega)
          have hx1 : i % (ns.length : Int) < (ns.length : Int) := Int.emod_lt_of_pos _ (by omega)
          obtain ⟨j, ej⟩ : ∃ j : Nat, i % (ns.length : Int) = (j : Int) := ⟨(i % (ns.length : Int)).toNat, by omega⟩
          have hj : j < ns.length := by omega
          have hat : atI (ns.map V.int) (i % ((ns.map V.int).length : Int)) = some (.int ns[j]) := by
            rw [List.length_map, ej]
            exact atI_nat (by rw [List.getElem?_map, List.getElem?_eq_getElem hj]; rfl)
          refine ⟨_, rfl, p, _, _, _, rfl, rfl, q1 _, atI0, _, rfl, Or.inl ⟨_, rfl, _, rfl, p, _, _, _, rfl, rfl, q1 _, atI0, _, _, rfl, .inl ⟨_, q2 _, rfl⟩, _, _, rfl, rfl, (by rw [List.length_map]; omega), c, _, _, _, rfl, rfl, q2 _, hat, ?_⟩⟩
          refine ⟨_, rfl, _, _, rfl, rfl, _, rfl, p, _, _, 1, rfl, rfl, upd_same, rfl, ?_⟩
          have e2 : ([V.ref c, .int i, .int l, .int (m + 1)].set 1 (.int (i + 1))) = [V.ref c, .int (i + 1), .int l, .int (m + 1)] := rfl
          rw [e2]
          have c2 : ∀ o o', (upd (upd H p o) p o') c = some (.lst (ns.map V.int)) := fun o o' => by rw [upd_ne ncp]; exact c1 o
          have kp2 : ∀ o o', Kp p H (upd (upd H p o) p o') := fun o o' => Kp.upd.trans Kp.upd
          have other : ∀ v : Int, Q (.int (v % n)) (upd (upd H p (.lst [.ref c, .int i, .int l, .int (m + 1)])) p (.lst [.ref c, .int (i + 1), .int l, .int (m + 1)])) := fun v =>
            k _ _ (Int.emod_nonneg _ (by omega)) (Int.emod_lt_of_pos _ n0) ⟨ns, i + 1, l, m + 1, upd_same, c2 _ _, ncp, by omega, hl⟩ (kp2 _ _)
          refine ⟨_, rfl, _, rfl, p, _, _, _, rfl, rfl, SqL.of upd_same, atI0, _, _, rfl, .inl ⟨_, SqL.of (c2 _ _), rfl⟩, _, _, rfl, rfl, _, rfl, ?_⟩
          refine ite2 (fun z3 => ?_) (fun z3 => ?_)
          · refine ⟨_, rfl, _, rfl, _, _, rfl, rfl, ⟨by decide, by decide, by decide⟩, _, _, rfl, rfl, _, rfl, ?_⟩
            refine ite2 (fun z4 => ?_) (fun z4 => ?_)
            · refine ⟨_, rfl, _, rfl, _, rfl, p, _, _, 2, rfl, rfl, upd_same, rfl, ?_⟩
              refine ⟨_, _, _, i + 1, _, rfl, upd_same, by rw [upd_ne ncp]; exact c2 _ _, by omega, ?_, (kp2 _ _).trans Kp.upd⟩
              split <;> omega
            · refine ⟨_, rfl, _, rfl, p, _, _, _, rfl, rfl, SqL.of upd_same, atI3, _, _, rfl, fun v => Or.inl ⟨_, rfl, _, rfl, _, _, rfl, rfl, n0, other v⟩⟩
          · refine ⟨_, rfl, _, rfl, p, _, _, _, rfl, rfl, SqL.of upd_same, atI3, _, _, rfl, fun v => Or.inl ⟨_, rfl, _, rfl, _, _, rfl, rfl, n0, other v⟩⟩
        · exact ⟨_, _, _, i, l, rfl, upd_same, c1 _, hi, hl, Kp.upd⟩
      · exact ⟨_, _, _, i, l, rfl, upd_same, c1 _, hi, hl, Kp.upd⟩
    · rintro σ' H2 ⟨x2, x3, x4, j, l2, rfl, hp2, hc2, j0, l0, kp⟩
      refine ⟨_, rfl, p, _, _, _, rfl, rfl, SqL.of hp2, atI2, Or.inl ⟨_, rfl, _, rfl, _, _, rfl, rfl, n0, ?_⟩⟩
      refine ⟨_, rfl, p, _, _, _, rfl, rfl, SqL.of hp2, atI2, _, rfl, _, _, rfl, rfl, wide_div (b := 120) n0 (by omega) (by decide) (by decide), _, rfl, p, _, _, 2, rfl, rfl, hp2, rfl, ?_⟩
      refine ⟨_, rfl, ?_⟩
      exact k _ _ (Int.emod_nonneg _ (by omega)) (Int.emod_lt_of_pos _ n0) ⟨ns, j, l2 / n, m + 1, upd_same, by rw [upd_ne ncp]; exact hc2, ncp, j0, Int.ediv_nonneg l0 (by omega)⟩ (kp.trans Kp.upd)
end
end Cs

set_option Elab.async false
set_option linter.all false
set_option maxRecDepth 100000
set_option maxHeartbeats 4000000
/-! The law's words, numbers and pairs. -/
namespace Cs
open PySem L2
def LET : Str := "abcdefghijklmnopqrstuvwxyz"
/-- one to eight letters -/
def Word (z : Str) : Prop := 1 ≤ z.length ∧ z.length ≤ 8 ∧ ∀ c ∈ z.cps.toList, c ∈ LET.cps.toList
/-- at most thirty digits -/
def Small (n : Int) : Prop := -(10 ^ 30) < n ∧ n < 10 ^ 30
theorem len_add (x y : Str) : (x ++ y).length = x.length + y.length := by
  show (x.cps ++ y.cps).size = x.cps.size + y.cps.size
  exact Array.size_append
theorem cps_add (x y : Str) : (x ++ y).cps.toList = x.cps.toList ++ y.cps.toList := by
  show (x.cps ++ y.cps).toList = _
  exact Array.toList_append
def wordB (z : Str) : Bool := decide (1 ≤ z.length) && decide (z.length ≤ 8) && z.cps.toList.all fun c => decide (c ∈ LET.cps.toList)
theorem word_of {z : Str} (h : wordB z = true) : Word z := by
  unfold wordB at h
  simp only [Bool.and_eq_true, decide_eq_true_eq, List.all_eq_true] at h
  exact ⟨h.1.1, h.1.2, h.2⟩
theorem ats_of {α : Type} {xs : List α} {z : Int} {j : Nat} {v : α} (e : z = (j : Int)) (h : xs[j]? = some v) : atI xs z = some v := by
  rw [e]
  exact atI_nat h
def spWord : Sp := fun vs H Q _ => ∃ p c : Addr, vs = [.ref p] ∧ Src H p c ∧ ∀ (z : Str) (H' : Hp), Word z → Src H' p c → Kp p H H' → Q (.str z) H'
def spNumber : Sp := fun vs H Q _ => ∃ p c : Addr, vs = [.ref p] ∧ Src H p c ∧ ∀ (n : Int) (H' : Hp), Small n → Src H' p c → Kp p H H' → Q (.int n) H'
/-- the items are tuples of a text and a number -/
def PrL (H : Hp) : List V → List (Str × Int) → Prop := Paired fun x q => ∃ t, x = V.ref t ∧ H t = some (.tup [.str q.1, .int q.2])
def GoodPs (ps : List (Str × Int)) : Prop := ∀ q ∈ ps, Word q.1 ∧ Small q.2
def spPairs : Sp := fun vs H Q _ => ∃ (p c : Addr) (m : Int), vs = [.ref p, .int m] ∧ Src H p c ∧ 0 ≤ m ∧ m ≤ 1000 ∧
  ∀ (q : Addr) (H' : Hp) (xs : List V) (ps : List (Str × Int)), H q = none → H' q = some (.lst xs) → PrL H' xs ps → GoodPs ps → (ps.length : Int) ≤ m → Src H' p c → Kp p H H' → Q (.ref q) H'
theorem PrL.mono {H H' : Hp} {xs : List V} {ps : List (Str × Int)} (h : PrL H xs ps) (k : ∀ t a b, H t = some (.tup [.str a, .int b]) → H' t = some (.tup [.str a, .int b])) : PrL H' xs ps :=
  Paired.mapP h fun x q ⟨t, e, r⟩ => ⟨t, e, k t _ _ r⟩
theorem PrL.length {H : Hp} : ∀ {xs : List V} {ps : List (Str × Int)}, PrL H xs ps → xs.length = ps.length
  | _, _, .nil => rfl
  | _, _, .cons _ t => congrArg (· + 1) (PrL.length t)
theorem PrL.at {H : Hp} : ∀ {xs : List V} {ps : List (Str × Int)}, PrL H xs ps → ∀ {i : Nat} {q : Str × Int}, ps[i]? = some q → ∃ t, xs[i]? = some (V.ref t) ∧ H t = some (.tup [.str q.1, .int q.2])
  | _, _, .nil, i, q, h => by simp at h
  | _, _, .cons (a := a) r t, 0, q, h => by
    obtain ⟨u, e, hu⟩ := r
    obtain rfl := Option.some.inj h
    exact ⟨u, by rw [e]; rfl, hu⟩
  | _, _, .cons r t, i + 1, q, h => PrL.at t h
theorem PrL.snoc {H : Hp} : ∀ {xs : List V} {ps : List (Str × Int)} {t : Addr} {a : Str} {b : Int}, PrL H xs ps → H t = some (.tup [.str a, .int b]) → PrL H (xs ++ [.ref t]) (ps ++ [(a, b)])
  | _, _, _, _, _, .nil, h => .cons ⟨_, rfl, h⟩ .nil
  | _, _, _, _, _, .cons r t, h => .cons r (PrL.snoc t h)
section
variable {P : Program} {w : World} {K : PySem.W.Frag} {mg : Str → Option Value} {base : Heap}
/-- a def of the module as its callers have it: its promise, its name, that it stays, how its arguments bind -/
structure Def (P : Program) (w : World) (K : PySem.W.Frag) (mg : Str → Option Value) (base : Heap) (CX : CXT) (k : Nat) (x : Str) (ps : List Str) (sp : Sp) (f : Addr) (fd : FuncData) : Prop where
  ok : FnOk P w K mg base CX k f fd ps sp
  m : mg x = some (.ref f)
  kp : PySem.W.keepIn K (.ref f) = true
  b : Binds K fd ps []
theorem ok_word {f fD : Addr} {fd fdD : FuncData} (F : Fun K "_law_word" "_law_word" s_l_word f fd) (g : Bi mg) (FD : Def P w K mg base CX0 2 "_law_draw" ["_law_source_here", "_law_size"] spDraw fD fdD) : FnOk P w K mg base CX0 3 f fd ["_law_source_here"] spWord := by
  obtain ⟨GD, mD, _, bD⟩ := id FD
  refine F.ok sc_l_word (fun vs H Q E h => ?_) (fun cdv A outer s H vs Q E hr h => ?_)
  · obtain ⟨_, _, rfl, _⟩ := h
    rfl
  · obtain ⟨p, c, rfl, hS, k⟩ := h
    have hrD : Room 2 _ := hr.mono (by decide)
    refine ⟨_, (pss_cons (ps_if (pt_cmpR op_eq (pe_call GD hrD rfl mD FD.kp bD .nil pass0 (pa_cons (pv 0) (pa_cons pe_int pa_nil))) pe_int (nomark _)) (pss_cons (ps_set (i := 1) sc_l_word.nd rfl (Or.inl rfl) (pe_lst (pa_cons pe_str (pa_cons pe_str (pa_cons pe_str (pa_cons pe_str (pa_cons pe_str (pa_cons pe_str (pa_cons pe_str (pa_cons pe_str pa_nil))))))))))
      (pss_one (ps_ret (pe_ix ix_list (pv 1) (pe_call GD hrD rfl mD FD.kp bD .nil pass0 (pa_cons (pv 0) (pa_cons pe_int pa_nil))) (fun _ _ => rfl))))) pss_nil)
      (pss_cons (ps_set (i := 2) sc_l_word.nd rfl (Or.inl rfl) pe_str)
      (pss_cons (ps_for PassesOwn.never rfl (pi_range1 rfl g.range (pa_cons (pe_op op_add pe_int (pe_call GD hrD rfl mD FD.kp bD .nil pass0 (pa_cons (pv 0) (pa_cons pe_int pa_nil)))) pa_nil)) (pg_name (i := 3) sc_l_word.nd rfl (Or.inl rfl)) (pss_one (ps_set (i := 2) sc_l_word.nd rfl (Or.inl rfl) (pe_op op_add_str (pv 2) (pe_ix ix_str pe_str (pe_call GD hrD rfl mD FD.kp bD .nil pass0 (pa_cons (pv 0) (pa_cons pe_int pa_nil))) (fun _ _ => rfl))))))
      (pss_one (ps_ret (pv 2)))))), ?_⟩
    refine ⟨_, rfl, p, c, 8, rfl, hS, by decide, by decide, fun v H1 v0 v1 S1 k1 => ⟨rfl, _, rfl, ite2 (fun z => ?_) (fun z => ?_)⟩⟩
    · refine ⟨by show 8 ≤ sizeLine; decide, fun l hl => ?_⟩
      have s2 : Same H1 (upd H1 l (.lst [.str "self", .str "hold", .str "gone", .str "main", .str "zzzzzzzz", .str "aaaaaaab", .str "if", .str "spare"])) := Same.new hl
      have nlp : l ≠ p := S1.new_p hl
      refine ⟨_, rfl, _, rfl, p, c, 8, rfl, S1.same s2, by decide, by decide, fun v2 H2 a0 a1 S2 k2 => ?_⟩
      have hl2 := k2 l _ upd_same nlp
      have key : ∀ j : Nat, j < 8 → ∃ z : Str, ([.str "self", .str "hold", .str "gone", .str "main", .str "zzzzzzzz", .str "aaaaaaab", .str "if", .str "spare"] : List V)[j]? = some (.str z) ∧ Word z := by
        intro j hj
        match j, hj with
        | 0, _ => exact ⟨_, rfl, word_of (by decide +kernel)⟩
        | 1, _ => exact ⟨_, rfl, word_of (by decide +kernel)⟩
        | 2, _ => exact ⟨_, rfl, word_of (by decide +kernel)⟩
        | 3, _ => exact ⟨_, rfl, word_of (by decide +kernel)⟩
        | 4, _ => exact ⟨_, rfl, word_of (by decide +kernel)⟩
        | 5, _ => exact ⟨_, rfl, word_of (by decide +kernel)⟩
        | 6, _ => exact ⟨_, rfl, word_of (by decide +kernel)⟩
        | 7, _ => exact ⟨_, rfl, word_of (by decide +kernel)⟩
      obtain ⟨z, ez, hz⟩ := key v2.toNat (by omega)
      refine ⟨l, _, v2, _, rfl, rfl, SqL.of hl2, at_of (z := v2) (j := v2.toNat) (by omega) ez, ?_⟩
      exact k z H2 hz S2 ((k1.trans (Kp.of s2)).trans k2)
    · refine ⟨_, rfl, p, c, 8, rfl, S1, by decide, by decide, fun v2 H2 a0 a1 S2 k2 => ⟨_, _, rfl, rfl, _, rfl, by omega, by omega, ?_⟩⟩
      refine for_range (lo := 0) (n := (1 + v2).toNat) (fun i σ' H' => ∃ (z : Str) (x1 x3 : Option V), σ' = [some (.ref p), x1, some (.str z), x3] ∧ z.length = i ∧ (∀ y ∈ z.cps.toList, y ∈ LET.cps.toList) ∧ Src H' p c ∧ Kp p H H')
        ⟨"", _, _, rfl, rfl, (by intro y hc; cases hc), S2, k1.trans k2⟩ ?_ ?_
      · rintro i σ' H' hi ⟨z, x1, x3, rfl, hz, hc, S', kp'⟩
        refine ⟨_, rfl, _, rfl, p, c, 26, rfl, S', by decide, by decide, fun v3 H3 b0 b1 S3 k3 => ?_⟩
        have hx : v3.toNat < LET.cps.toList.length := by
          have : LET.cps.toList.length = 26 := by decide +kernel
          omega
        refine ⟨LET, v3, LET.cps.toList[v3.toNat], rfl, rfl, by decide +kernel, ats_of (z := v3) (j := v3.toNat) (by omega) (List.getElem?_eq_getElem hx), z, _, rfl, rfl, ?_, ?_⟩
        · have : (⟨#[LET.cps.toList[v3.toNat]]⟩ : Str).length = 1 := rfl
          rw [this, hz]
          exact Nat.le_trans (show i + 1 ≤ 1000 by omega) (by decide)
        · refine ⟨_, _, _, rfl, ?_, fun y hc' => ?_, S3, kp'.trans k3⟩
          · rw [len_add, hz]
            rfl
          · rw [cps_add] at hc'
            rcases List.mem_append.mp hc' with q | q
            · exact hc y q
            · have e : y = LET.cps.toList[v3.toNat] := by simpa using q
              rw [e]
              exact List.getElem_mem hx
      · rintro σ' H' ⟨z, x1, x3, rfl, hz, hc, S', kp'⟩
        exact ⟨_, rfl, k z H' ⟨by omega, by omega, hc⟩ S' kp'⟩
theorem ok_number {f fD : Addr} {fd fdD : FuncData} (F : Fun K "_law_number" "_law_number" s_l_number f fd) (g : Bi mg) (FD : Def P w K mg base CX0 2 "_law_draw" ["_law_source_here", "_law_size"] spDraw fD fdD) : FnOk P w K mg base CX0 3 f fd ["_law_source_here"] spNumber := by
  obtain ⟨GD, mD, _, bD⟩ := id FD
  refine F.ok sc_l_number (fun vs H Q E h => ?_) (fun cdv A outer s H vs Q E hr h => ?_)
  · obtain ⟨_, _, rfl, _⟩ := h
    rfl
  · obtain ⟨p, c, rfl, hS, k⟩ := h
    have hrD : Room 2 _ := hr.mono (by decide)
    refine ⟨_, (pss_cons (ps_set (i := 1) sc_l_number.nd rfl (Or.inl rfl) (pe_call GD hrD rfl mD FD.kp bD .nil pass0 (pa_cons (pv 0) (pa_cons pe_int pa_nil))))
      (pss_cons (ps_if (pt_cmpR op_eq (pv 1) pe_int (nomark _)) (pss_one (ps_ret (pe_op op_sub (pe_call GD hrD rfl mD FD.kp bD .nil pass0 (pa_cons (pv 0) (pa_cons pe_int pa_nil))) pe_int))) pss_nil)
      (pss_cons (ps_if (pt_cmpR op_eq (pv 1) pe_int (nomark _)) (pss_one (ps_ret (pe_op op_sub (pe_call GD hrD rfl mD FD.kp bD .nil pass0 (pa_cons (pv 0) (pa_cons pe_int pa_nil))) pe_int))) pss_nil)
      (pss_cons (ps_set (i := 2) sc_l_number.nd rfl (Or.inl rfl) pe_int)
      (pss_cons (ps_for PassesOwn.never rfl (pi_range1 rfl g.range (pa_cons pe_int pa_nil)) (pg_name (i := 3) sc_l_number.nd rfl (Or.inl rfl)) (pss_one (ps_set (i := 2) sc_l_number.nd rfl (Or.inl rfl) (pe_op op_add (pe_op op_mul (pv 2) (pe_op op_pow pe_int pe_int)) (pe_call GD hrD rfl mD FD.kp bD .nil pass0 (pa_cons (pv 0) (pa_cons (pe_op op_pow pe_int pe_int) pa_nil)))))))
      (pss_cons (ps_set (i := 2) sc_l_number.nd rfl (Or.inl rfl) (pe_op op_mod (pe_callTy call_int1 (by rfl) g.int (by decide +kernel) (pa_cons (pv 2) pa_nil)) (pe_op op_pow pe_int pe_int)))
      (pss_one (ps_ret (pe_ifExp (pt_cmpR op_eq (pv 1) pe_int (nomark _)) (pv 2) (pe_un un_neg (pv 2))))))))))), ?_⟩
    refine ⟨_, rfl, p, c, 4, rfl, hS, by decide, by decide, fun v H1 v0 v1 S1 k1 => ?_⟩
    refine ⟨_, rfl, rfl, _, rfl, ite2 (fun z => ?_) (fun z => ?_)⟩
    · refine ⟨_, rfl, p, c, 7, rfl, S1, by decide, by decide, fun v2 H2 a0 a1 S2 k2 => ⟨_, _, rfl, rfl, k _ _ ⟨by omega, by omega⟩ S2 (k1.trans k2)⟩⟩
    refine ⟨_, rfl, rfl, _, rfl, ite2 (fun z => ?_) (fun z => ?_)⟩
    · refine ⟨_, rfl, p, c, 2001, rfl, S1, by decide, by decide, fun v2 H2 a0 a1 S2 k2 => ⟨_, _, rfl, rfl, k _ _ ⟨by omega, by omega⟩ S2 (k1.trans k2)⟩⟩
    refine ⟨4, rfl, by decide, by decide, ?_⟩
    refine for_range (lo := 0) (n := 4) (fun i σ' H' => ∃ (n : Int) (x3 : Option V), σ' = [some (.ref p), some (.int v), some (.int n), x3] ∧ Src H' p c ∧ Kp p H H') ⟨0, _, rfl, S1, k1⟩ ?_ ?_
    · rintro i σ' H' hi ⟨n, x3, rfl, S', kp'⟩
      refine ⟨_, rfl, _, _, rfl, rfl, ⟨by decide, by decide, by decide⟩, _, _, rfl, rfl, .inr ⟨by decide, by decide⟩, _, rfl, _, _, rfl, rfl, ⟨by decide, by decide, by decide⟩, p, c, _, rfl, S', by decide, by decide, fun v3 H3 b0 b1 S3 k3 => ?_⟩
      exact ⟨_, _, rfl, rfl, _, _, rfl, S3, kp'.trans k3⟩
    · rintro σ' H' ⟨n, x3, rfl, S', kp'⟩
      refine ⟨_, rfl, Or.inl ⟨_, rfl, _, _, rfl, rfl, ⟨by decide, by decide, by decide⟩, _, _, rfl, rfl, (by show (0 : Int) < 10 ^ 30; decide), ?_⟩⟩
      have e : ((10 : Int) ^ (30 : Int).toNat) = 10 ^ 30 := rfl
      rw [e]
      have h0 : 0 ≤ n % 10 ^ 30 := Int.emod_nonneg _ (by decide)
      have h1 : n % 10 ^ 30 < 10 ^ 30 := Int.emod_lt_of_pos _ (by decide)
      refine ⟨_, rfl, rfl, _, rfl, ite2 (fun z => ?_) (fun z => ?_)⟩
      · exact ⟨_, rfl, k _ _ ⟨by omega, h1⟩ S' kp'⟩
      · exact ⟨_, rfl, _, rfl, k _ _ ⟨by omega, by omega⟩ S' kp'⟩
end
end Cs

set_option Elab.async false
set_option linter.all false
set_option maxRecDepth 100000
set_option maxHeartbeats 4000000
namespace Cs
open PySem L2
section
variable {P : Program} {w : World} {K : PySem.W.Frag} {mg : Str → Option Value} {base : Heap}
end
end Cs

set_option Elab.async false
set_option linter.all false
set_option maxRecDepth 100000
set_option maxHeartbeats 4000000
/-! The program's words: is_integer, is_word, is_small, is_pair, distinct. -/
namespace Cs
open PySem L2
/-- a value of a built-in type that is no int -/
def NotInt (K : PySem.W.Frag) (H : Hp) (x : V) : Prop := ∃ ty : String, TyX K H x (.type ty) ∧ (ty = "bool" ∨ kitB ty "int" = some false)
def spIsInteger (K : PySem.W.Frag) : Sp := fun vs H Q _ => (∃ n : Int, vs = [.int n] ∧ Q (.bl true) H) ∨ (∃ x, vs = [x] ∧ NotInt K H x ∧ Q (.bl false) H)
def spIsSmall (K : PySem.W.Frag) : Sp := fun vs H Q _ => (∃ n : Int, vs = [.int n] ∧ Q (.bl (decide (-(10 ^ 30) < n) && decide (n < 10 ^ 30))) H) ∨ (∃ x, vs = [x] ∧ NotInt K H x ∧ Q (.bl false) H)
def spIsWord (K : PySem.W.Frag) : Sp := fun vs H Q _ => (∃ z : Str, vs = [.str z] ∧ z.length ≤ 100000 ∧ ∀ H', Same H H' → Q (.bl (wordB z)) H') ∨ (∃ x ty, vs = [x] ∧ TyX K H x (.type ty) ∧ kitB ty "str" = some false ∧ Q (.bl false) H)
/-- of a good pair -/
def spIsPair (K : PySem.W.Frag) : Sp := fun vs H Q _ => ∃ (t : Addr) (z : Str) (n : Int), vs = [.ref t] ∧ H t = some (.tup [.str z, .int n]) ∧ Word z ∧ Small n ∧ ∀ H', Same H H' → Q (.bl true) H'
def spDistinct (K : PySem.W.Frag) : Sp := fun vs H Q _ => ∃ (a : Addr) (zs : List Str), vs = [.ref a] ∧ SqL K H a (zs.map V.str) ∧ zs.length ≤ 1000 ∧
  ∀ (p : Addr) (H' : Hp) (ws : List Str), H p = none → Same H H' → H' p = some (.lst (ws.map V.str)) → Asc ws → (∀ z, z ∈ ws ↔ z ∈ zs) → ws.length ≤ zs.length → Q (.ref p) H'
theorem wordB_of {z : Str} (h : Word z) : wordB z = true := by
  unfold wordB
  simp only [Bool.and_eq_true, decide_eq_true_eq, List.all_eq_true]
  exact ⟨⟨h.1, h.2.1⟩, h.2.2⟩
theorem kit_int {K : PySem.W.Frag} {H : Hp} {x : V} (h : NotInt K H x) : ∃ ty, TyX K H x (.type ty) ∧ (ty = "bool" ∨ kitB ty "int" = some false) := h
theorem yes_it {σ : L2.St} {H : Hp} {A B : Hp → Prop} (h : A H) : tYes σ H (fun b H3 => if b = true then A H3 else B H3) := iteT (A := A H) (B := B H) h
/-- a set comprehension of texts over a walk -/
theorem scT_it {J : It} {n : Nat} {G : Hp → Prop} {Y : Nat → Hp → V → Hp → Prop} (wk : Walk J n G Y) {w : World} {g : TG} {tt : TT} {te : TE} {vs : List Nat} {σ : L2.St} {H1 : Hp} {D : Addr} {Qd : Hp → Prop} (Pv : Nat → Hp → Prop)
    (h0 : Pv 0 (upd H1 D (TSetO w D []))) (hG : ∀ i H, i ≤ n → Pv i H → G H)
    (hs : ∀ i x H H', i < n → Pv i H → Y i H x H' → g x (wipe σ vs) H' fun σ2 H2 => wipe σ2 vs = wipe σ vs ∧ tt σ2 H2 fun b H3 =>
      if b = true then te σ2 H3 fun y H4 => ∃ (z : Str) (zs : List Str), y = .str z ∧ H4 D = some (TSetO w D zs) ∧ zs.length + 1 < scanBound ∧ Pv (i + 1) (upd H4 D (TSetO w D (addT zs z))) else Pv (i + 1) H3)
    (hd : ∀ H, Pv n H → Qd H) :
    ∃ W : Nat → Nat → Hp → Prop, (∃ m, W 0 m (upd H1 D (TSetO w D []))) ∧ ∀ i m H, W i m H →
      (J.stop i H ∧ Qd H) ∨ (J.go i H ∧ ∃ Nx : Hp → Prop, (∀ H', Nx H' → ∃ m', m' < m ∧ W (i + 1) m' H') ∧ ∀ x H', J.yld i H x H' → g x (wipe σ vs) H' fun σ2 H2 => wipe σ2 vs = wipe σ vs ∧ tt σ2 H2 fun b H3 =>
        if b = true then te σ2 H3 fun y H4 => ∃ (z : Str) (zs : List Str), y = .str z ∧ H4 D = some (TSetO w D zs) ∧ zs.length + 1 < scanBound ∧ Nx (upd H4 D (TSetO w D (addT zs z))) else Nx H3) := by
  refine ⟨fun i m H => m = n - i ∧ i ≤ n ∧ Pv i H, ⟨n, by simp, Nat.zero_le _, h0⟩, ?_⟩
  rintro i m H ⟨rfl, hi, p⟩
  by_cases lt : i < n
  · exact .inr ⟨wk.goes i H lt (hG i H hi p), Pv (i + 1), fun H' r => ⟨n - (i + 1), by omega, rfl, lt, r⟩, fun x H' y => hs i x H H' lt p (wk.yields i H x H' lt (hG i H hi p) y)⟩
  · obtain rfl : i = n := by omega
    exact .inl ⟨wk.stops H (hG i H hi p), hd H p⟩
section
variable {P : Program} {w : World} {K : PySem.W.Frag} {mg : Str → Option Value} {base : Heap}
end
end Cs

set_option Elab.async false
set_option linter.all false
set_option maxRecDepth 100000
set_option maxHeartbeats 4000000
/-! Own errors with one field. -/
namespace Cs
open PySem PySem.Spec PyProof.Rows L2
/-- __init__ of an own error: self.fld = y -/
def spXi (C : Addr) (fld : Str) : Sp := fun vs H Q _ => ∃ (a : Addr) (y : V), vs = [.ref a, y] ∧ H a = some (exo a C none) ∧ ∀ dx, H dx = none → dx ≠ a → Q .non (upd (upd H dx (exd dx [(fld, y)])) a (exo a C (some dx)))
theorem upd_back {H : Hp} {a dx : Addr} {o1 o2 o3 o4 : HO} (ha : H a = none) (n : dx ≠ a) : upd (del (upd (upd (upd H a o1) dx o2) a o3) a) dx o4 = upd H dx o4 := by
  funext b
  by_cases c : b = dx
  · subst c
    rw [upd_same, upd_same]
  · rw [upd_ne c, upd_ne c]
    by_cases e : b = a
    · subst e
      rw [del_same, ha]
    · rw [del_ne e, upd_ne e, upd_ne c, upd_ne e]
theorem xmk {C : Addr} {fld : Str} {y : V} {H1 : Hp} {Q : XK} (k : ∀ dx, H1 dx = none → Q (.ref C) (some dx) (upd H1 dx (.xd [(fld, y)]))) :
    ([y] : List V).length ≤ 1000 ∧ ∀ a, H1 a = none → spXi C fld (.ref a :: ([y] ++ [])) (upd H1 a (exo a C none)) (fun v H2 => v = .non ∧ ∃ (d : Addr) (fs : List (Str × V)), H2 a = some (exo a C (some d)) ∧ H2 d = some (exd d fs) ∧ H1 d = none ∧ Q (.ref C) (some d) (upd (del H2 a) d (.xd fs))) (fun _ _ _ => False) := by
  refine ⟨by show 1 ≤ 1000; decide, fun a ha => ⟨a, y, rfl, upd_same, fun dx hdx ne => ⟨rfl, dx, _, upd_same, by rw [upd_ne ne]; exact upd_same, ?_, ?_⟩⟩⟩
  · rw [upd_ne ne] at hdx
    exact hdx
  · rw [upd_back ha ne]
    exact k dx (by rw [upd_ne ne] at hdx; exact hdx)
/-- an error of the class at S is caught by its own name -/
theorem exm_self {K : PySem.W.Frag} {S : Addr} (h1 : PySem.W.subIn K (.ref S) (.type "BaseException") = some true) (h2 : PySem.W.isClsIn K S = true) (h3 : PySem.W.typeIn K (.ref S) = some (.type "type")) (h4 : PySem.W.subIn K (.ref S) (.ref S) = some true) : PySem.W.exmOne K (.ref S) (.ref S) = some true := by
  have h2' : (PySem.W.clsIn K S).isSome = true := h2
  unfold PySem.W.exmOne PySem.W.kitCls
  simp [h1, h2', h3, h4]
/-- an own error as those have it that raise it -/
structure XDef (P : Program) (w : World) (K : PySem.W.Frag) (mg : Str → Option Value) (base : Heap) (x : Str) (C fI : Addr) (fld : Str) (ps : List Str) (fd : FuncData) : Prop where
  c : OexC K C
  iC : PySem.W.findIn K (.ref C) "__init__" = some (some (.ref fI))
  tI : PySem.W.typeIn K (.ref fI) = some (.type "function")
  ok : FnOk P w K mg base CX0 1 fI fd ps (spXi C fld)
  b : Binds K fd ps []
  mg_ : mg x = some (.ref C)
  te : PySem.W.exmOne K (.ref C) (.ref C) = some true
end Cs

set_option Elab.async false
set_option linter.all false
set_option maxRecDepth 100000
set_option maxHeartbeats 4000000
/-! isinstance(e, C) of a caught error that has its own dict; defs that let nothing out after all. -/
namespace Cs
open PySem PySem.Spec PyProof.Rows L2
section
variable {prog : Program} {w : World} {A : Around} {E : Value → Shared → Prop} {s : Shared} {K : PySem.W.Frag} {x D : Addr} {ox od : Obj}
/-- e.__class__ of an error with a dict -/
theorem exd_class {Q : Option Value → Shared → Prop} (C : ExcC K D) (X : K.In s.heap) (I : PySem.W.InstAt s.heap x ox D (some od)) (h : Q (some (.ref D)) { s with toks := s.toks + 1 }) : wpAny (model prog w) A (getAttr? (.ref x) "__class__") Q E s := by
  have hf : PySem.W.findObj K D (some od) "__class__" = some (.bind (.builtin "getset_descriptor.__get__") (.builtin "object.__class__")) := PySem.W.findObj_data (by obtain ⟨cd, hc, _⟩ := PySem.W.any_some C.hd; rw [hc]; rfl) C.ha C.hn C.ht
  obtain ⟨hp, g, d, t, os⟩ := s
  have T0 := I.type (M := model prog w)
  have T1 := PySem.W.looks_findIn (M := model prog w) X C.hg
  have T2 := PySem.W.looks_findIn (M := model prog w) X C.hk
  have T3 := PySem.W.looks_find (M := model prog w) X I hf
  have up : PySem.W.Looks (model prog w) hp (isInstance (.ref x) (.type "BaseException")) true := T0.andThen (PySem.W.looks_subIn X C.hs)
  have e2 : (Value.builtin "BaseException.__getattribute__" == Value.builtin "object.__getattribute__") = false := by decide +kernel
  have e1 : (onTheHeap (Value.ref D) && Value.builtin "BaseException.__getattribute__" == Value.builtin "object.__getattribute__") = false := by rw [e2]; rfl
  unfold getAttr?; unfold getAttrBy?; unfold getAttrBy
  refine wpAny_bind (wpAny_mkText (wpAny_bind (wpAny_attempt (wpAny_holding (wpAny_bind (T0.at (wpAny_bind (T1.at ?_))))))))
  show wpAny _ _ (if (onTheHeap (Value.ref D) && Value.builtin "BaseException.__getattribute__" == Value.builtin "object.__getattribute__") = true then _ else _) _ _ _
  rw [e1, if_neg Bool.false_ne_true]; unfold getAttrByItsOwn; unfold hookBefore
  refine wpAny_bind ?_; rw [if_pos (show onTheHeap (Value.ref D) = true from rfl)]
  refine T2.at (wpAny_bind (wpAny_attempt (wpAny_holding ?_)))
  unfold callGetattribute; rw [show (false && onTheHeap (Value.builtin "BaseException.__getattribute__")) = false from rfl, if_neg Bool.false_ne_true]; unfold boundAndCalled
  rw [PySem.F.excAttr_ValueError.ga.bind (.ref x)]; refine wpAny_bind (wpAny_pure ?_)
  show wpAny _ _ (call (.builtin "BaseException.__getattribute__") [.ref x, .str "__class__" t]) _ _ _
  refine wpAny_call (codeAny_call_builtin PySem.F.excAttr_ValueError.ga.plain PySem.F.entry_bexc_ga (@PySem.W.check_slot (model prog w) _ _ ⟨hp, g, d, t + 1, os⟩ "BaseException.__getattribute__" "BaseException" "__getattribute__" (.ref x) [.str "__class__" t] [] _ (by decide +kernel) (by decide +kernel) up (PySem.F.args_bexc_ga (.ref x) (.str "__class__" t)) ?_))
  unfold Builtin.«object.__getattribute__»; refine wpAny_bind (wpAny_of_eq (a := ((Value.ref x : Value), [Value.str "__class__" t])) (by first | rfl | (simp only [slotArgs]; rfl)) ?_)
  refine wpAny_bind (wpAny_pure (wpAny_bind (T0.at (wpAny_bind (T3.at ?_))))); show wpAny _ _ (holding [Value.builtin "object.__class__"] (call (.builtin "getset_descriptor.__get__") [.builtin "object.__class__", .ref x, .ref D]) >>= ret) _ _ _
  refine wpAny_bind (wpAny_holding (wpAny_call (PySem.W.class_get (s := ⟨hp, g, d, t + 1, os⟩) (ox := ox) (od := some od) X I C.hm (wpAny_pure ?_)))); show wpAny _ _ (handedOut (.ref D)) _ _ _
  rw [PySem.W.handedOut_of (v := .ref D) rfl]; first | exact wpAny_pure (wpAny_pure h) | exact wpAny_pure h | exact wpAny_pure (wpAny_bind (wpAny_pure (wpAny_pure h)))
theorem exd_kit (C : ExcC K D) : PySem.W.KitX K (.ref x) (.ref D) (fun h => PySem.W.InstAt h x ox D (some od)) := by
  have hc : ∃ c' d' cd' sl', K.lookup D = some ⟨c', d', .cls cd', sl'⟩ := by
    obtain ⟨cdD, hcD, _⟩ := PySem.W.any_some C.hd
    unfold PySem.W.clsIn at hcD
    split at hcD
    · rename_i c' d' cd' sl' ho
      exact ⟨c', d', _, sl', ho⟩
    · cases hcD
  obtain ⟨c', d', cd', sl', ho⟩ := hc
  have h3 : ∀ (h : Heap) (tp : Addr) (dd : Option Addr) (its : Array Value) (n : Nat) (sl : Array (Option Value)), K.In h → h.get? tp = some ⟨.type "tuple", dd, .seq its n, sl⟩ → (Value.ref D == Value.ref tp) = false := fun h tp dd its n sl X htp => by
    refine Bool.eq_false_iff.mpr fun q => ?_
    have e : D = tp := Value.ref.inj (beq_iff_eq.mp q)
    subst e
    have z := (X _ _ ho).symm.trans htp
    cases z
  refine ⟨fun _ _ _ I => I.type, fun _ _ X _ A1 Q1 E1 s1 k q => ?_, fun h tp dd its => h3 h tp dd its.toArray, fun X I k => exd_class C X I k⟩
  unfold isType; unfold loadHead; exact wpAny_bind (wpAny_loadPart (k _ _ (X _ _ ho)) (wpAny_pure q))
end
/-- isinstance(e, c), e the error that the suite holds -/
def rIsD (K : PySem.W.Frag) (a : Addr) (cls : Value) (d : Option Addr) : List V → Hp → VK → Prop := fun xs H Q => ∃ (D dd : Addr) (fs : List (Str × V)) (c : V) (cv : Value) (b : Bool), ExcC K D ∧ cls = .ref D ∧ d = some dd ∧ H dd = some (.xd fs) ∧ xs = [.ref a, c] ∧ (∀ u, RelV c u → u = cv) ∧ PySem.W.kitOne K (.ref D) cv = some b ∧ Q (.bl b) H
theorem call_isD {X : Cx} {a : Addr} {oe : Obj} {cls : Value} {d : Option Addr} {pn : List (Addr × Obj)} (hz : Zc cls d oe) (hf : ∃ vs, oe.data = .fields vs) : CallR (X.suite a ((a, oe) :: pn)) (.builtin "isinstance") (rIsD X.K a cls d) := by
  intro pins s σ H xs us Q I r h
  obtain ⟨D, dd, fs, c, cv, b, C, rfl, rfl, hdd, rfl, hcv, e, q⟩ := h
  cases r with
  | cons rx rr =>
    cases rr with
    | cons rt rr =>
      cases rr
      cases rx
      have ec := hcv _ rt
      subst ec
      obtain ⟨hget, _⟩ := I.pin (a, oe) (List.mem_append.mpr (.inl List.mem_cons_self))
      obtain ⟨vs, hv⟩ := hf
      have hx : ObjOk X.prog X.w H s.heap dd (.xd fs) := I.hok dd _ hdd
      obtain ⟨mA, hns, hr⟩ := hx
      obtain ⟨od, ho, hl⟩ := lookIn_ns hns
      have J : PySem.W.InstAt s.heap a oe D (some od) := ⟨hget, hz.1, by unfold PySem.W.notCls; rw [hv] <;> rfl, by rw [hz.2]; exact ho⟩
      exact PySem.W.kia_one (exd_kit C) I.kIn J e (fun z => nomatch z) fun tk => ⟨.bl b, H, I.kept (t' := tk) fun _ _ z => z, rfl, q⟩
/-- a def whose promise lets nothing out -/
theorem FnR.calm {P : Program} {w : World} {K : PySem.W.Frag} {mg : Str → Option Value} {base : Heap} {k : Nat} {f : Addr} {sp : Sp} (F : FnR P w K mg base (L2.CX P w) k f sp) : FnR P w K mg base CX0 k f (fun vs H Q _ => sp vs H Q fun _ _ _ => False) := by
  intro A outer s H us vs Q E hr e0 r hs
  refine codeAny_mono (F A outer s H us vs Q _ hr e0 r hs) fun r s' h => ?_
  cases r with
  | ok fl => cases fl <;> exact h
  | error e =>
    obtain ⟨_, _, _, _, _, _, _, _, _, _, _, _, z⟩ := h
    exact z.elim
theorem FnOk.calm {P : Program} {w : World} {K : PySem.W.Frag} {mg : Str → Option Value} {base : Heap} {k : Nat} {f : Addr} {fd : FuncData} {ps : List Str} {sp : Sp} (F : FnOk P w K mg base (L2.CX P w) k f fd ps sp) : FnOk P w K mg base CX0 k f fd ps (fun vs H Q _ => sp vs H Q fun _ _ _ => False) := by
  refine ⟨fun vs H Q E h => F.len vs H Q _ h, fun A outer s H args us vs Q E hr e0 b r hs => ?_⟩
  refine codeAny_mono (F.run A outer s H args us vs Q _ hr e0 b r hs) fun r s' h => ?_
  cases r with
  | ok fl => cases fl <;> exact h
  | error e =>
    obtain ⟨_, _, _, _, _, _, _, _, _, _, _, _, z⟩ := h
    exact z.elim
end Cs

set_option Elab.async false
set_option linter.all false
set_option maxRecDepth 100000
set_option maxHeartbeats 4000000
/-! Own errors over LookupError, RuntimeError, ZeroDivisionError (or ValueError): made, with fields. -/
namespace Cs
open PySem PySem.Spec PyProof.Rows L2
open Builtin Builtin.ObjectAttr
/-- own classes, then the tail of a built-in base -/
def refsT (tl : List Value) : List Value → Bool
  | .ref _ :: r => refsT tl r
  | l => l == tl
def isRf : Value → Bool
  | .ref _ => true
  | _ => false
/-- what must be known of a base -/
structure BaseT (B newId initId : String) (tl : List Value) : Prop where
  F : ExcBaseFacts B newId initId tl
  pass : ∀ self : Value, refuseLoop self "__setattr__" tl = pure ()
  obj : tl.contains (.type "object") = true
  nr : tl.any isRf = false
theorem base_V : BaseT "ValueError" "ValueError.__new__" "ValueError.__init__" PySem.HandSPX.veTail := ⟨F.excBase_ValueError, PySem.F.store_ValueError.passes, by decide +kernel, rfl⟩
theorem base_Z : BaseT "ZeroDivisionError" "ZeroDivisionError.__new__" "ZeroDivisionError.__init__" [.type "ZeroDivisionError", .type "ArithmeticError", .type "Exception", .type "BaseException", .type "object"] := ⟨F.excBase_ZeroDivisionError, fun self => by kernel_rfl, by decide +kernel, rfl⟩
theorem base_L : BaseT "LookupError" "LookupError.__new__" "LookupError.__init__" [.type "LookupError", .type "Exception", .type "BaseException", .type "object"] := ⟨F.excBase_LookupError, fun self => by kernel_rfl, by decide +kernel, rfl⟩
theorem base_R : BaseT "RuntimeError" "RuntimeError.__new__" "RuntimeError.__init__" [.type "RuntimeError", .type "Exception", .type "BaseException", .type "object"] := ⟨F.excBase_RuntimeError, fun self => by kernel_rfl, by decide +kernel, rfl⟩
section
variable {B newId initId : String} {tl : List Value}
theorem refsT_cases : ∀ l : List Value, refsT tl l = true → (∃ c r, l = .ref c :: r ∧ refsT tl r = true) ∨ l = tl
  | .ref c :: r, e => .inl ⟨c, r, rfl, e⟩
  | [], e => .inr (beq_iff_eq.mp e)
  | .none :: _, e => .inr (beq_iff_eq.mp e)
  | .ellipsis :: _, e => .inr (beq_iff_eq.mp e)
  | .notImplemented :: _, e => .inr (beq_iff_eq.mp e)
  | .bool _ :: _, e => .inr (beq_iff_eq.mp e)
  | .int _ _ :: _, e => .inr (beq_iff_eq.mp e)
  | .float _ _ :: _, e => .inr (beq_iff_eq.mp e)
  | .str _ _ :: _, e => .inr (beq_iff_eq.mp e)
  | .bytes _ _ :: _, e => .inr (beq_iff_eq.mp e)
  | .type _ :: _, e => .inr (beq_iff_eq.mp e)
  | .builtin _ :: _, e => .inr (beq_iff_eq.mp e)
theorem refsT_pass (T : BaseT B newId initId tl) (self : Value) : ∀ l : List Value, refsT tl l = true → refuseLoop self "__setattr__" l = pure () := by
  intro l
  induction l with
  | nil =>
    intro e
    rcases refsT_cases [] e with ⟨c, r, q, _⟩ | q
    · cases q
    · rw [q]; exact T.pass self
  | cons a r ih =>
    intro e
    rcases refsT_cases (a :: r) e with ⟨c, r', q, h⟩ | q
    · obtain ⟨rfl, rfl⟩ := List.cons.inj q
      rw [PySem.refuseLoop_ref]; exact ih h
    · rw [q]; exact T.pass self
theorem refsT_contains (X : String) : ∀ l : List Value, refsT tl l = true → l.contains (.type X) = tl.contains (.type X) := by
  intro l
  induction l with
  | nil =>
    intro e
    rcases refsT_cases [] e with ⟨c, r, q, _⟩ | q
    · cases q
    · rw [q]
  | cons a r ih =>
    intro e
    rcases refsT_cases (a :: r) e with ⟨c, r', q, h⟩ | q
    · obtain ⟨rfl, rfl⟩ := List.cons.inj q
      rw [List.contains_cons, ih h]; rfl
    · rw [q]
end
section
variable {prog : Program} {w : World} {A : Around} {E : Value → Shared → Prop} {R : Result → Shared → Prop} {hp : Heap} {g : Array GenState} {d : Drawn} {t : Nat} {os : OsState} {B newId initId : String} {tl : List Value}
open PySem.HandSPX
/-- the first field of such an exception -/
theorem osa_newT {K : W.Frag} {name : Str} {tk : Tok} {v : Value} {x C : Addr} {fv : Array Value} {cd : ClassData} (T : BaseT B newId initId tl)
    (X : K.In hp) (hx : hp.get? x = some { cls := .ref C, data := .fields fv }) (hcd : W.clsIn K C = some cd) (hm : refsT tl cd.mro = true) (hh : cd.hasDict = true) (ha : W.findIn K (.ref C) name = some none)
    (hq : ∀ h' tk' dx, (∀ b o, b ≠ x → hp.get? b = some o → h'.get? b = some o) → hp.objs.size ≤ dx → dx ≠ x → h'.get? x = some { cls := .ref C, dict := some dx, data := .fields fv } →
      h'.Ns1 dx (fun y => if y = name then some v else none) → R (.ok (.ret .none)) ⟨h', g, d, tk', os⟩) :
    codeAny (model prog w) A (.call (.builtin "object.__setattr__") ⟨[.ref x, .str name tk, v], []⟩) R ⟨hp, g, d, t, os⟩ := by
  have I : W.InstAt hp x { cls := .ref C, data := .fields fv } C none := ⟨hx, rfl, rfl, trivial⟩
  have SF := F.store_object
  have hob : cd.mro.contains (.type "object") = true := (refsT_contains "object" _ hm).trans T.obj
  have ne : cd.mro.isEmpty = false := by
    cases h : cd.mro with
    | nil => rw [h] at hob; cases hob
    | cons _ _ => rfl
  have hxs : x ≠ hp.objs.size := Nat.ne_of_lt (Heap.lt_size hx)
  have sub : W.Looks (model prog w) hp (isInstance (.ref x) (.type "object")) true := I.type.andThen (W.looks_mroIn X (by unfold W.mroIn; rw [hcd, Option.bind_some, if_neg (by rw [ne]; decide), hob]))
  refine codeAny_call_builtin SF.slot.plain SF.entry (@W.check_slot (model prog w) _ _ ⟨hp, g, d, t, os⟩ "object.__setattr__" "object" "__setattr__" (.ref x) [.str name tk, v] [] _ SF.kind SF.split sub (SF.args (.ref x) (.str name tk) v) ?_)
  have hmr : W.Looks (model prog w) hp (mroOf (.ref C)) cd.mro := (W.looks_clsIn X hcd).andThen .now
  have L3 : W.Looks (model prog w) hp (storeTaker? none) none := .now
  have hcls : W.Looks (model prog w) hp (classData C) cd := W.looks_clsIn X hcd
  rw [W.osa_eq, refuse_eq]
  refine wpAny_bind (wpAny_bind (I.type.at (wpAny_bind (hmr.at ?_))))
  rw [refsT_pass T _ _ hm]
  refine wpAny_pure (wpAny_bind (I.type.at (wpAny_bind ((W.looks_findIn X ha).at (wpAny_bind (L3.at ?_))))))
  show wpAny _ _ (storeInOwnDict (.ref x) (.ref C) (.str name tk) name v false) _ _ _
  obtain ⟨nm, bs, mro, ns, qn, hd, sn, sb, ab, col, del⟩ := cd
  dsimp only at hh
  subst hh
  unfold storeInOwnDict ownDictForStores
  repeat (first | with_reducible refine store_in_new ?_ ?_ | with_reducible refine wpAny_loadPart_at hx ?_ | with_reducible refine hcls.at ?_ | wp_step)
  · exact ⟨_, #[], _, (Heap.get?_update_ne _ _ _ _ hxs.symm).trans (Heap.get?_push_at rfl rfl), rfl, fun e he => absurd he (by simp), fun _ => rfl⟩
  · intro h' tk' hn' hs
    have hx₁ : (hp.push { cls := .type "dict", data := .dict #[] }).get? x = some { cls := .ref C, data := .fields fv } := Heap.get?_push_of_some _ hx
    refine hq h' tk' hp.objs.size (fun b o hb ho => ?_) (Nat.le_refl _) hxs.symm ?_ hn'
    · exact (hs.2 b (Nat.ne_of_lt (Heap.lt_size ho))).trans ((Heap.get?_update_ne _ _ _ _ hb).trans (Heap.get?_push_of_some _ ho))
    · exact (hs.2 x hxs).trans (Heap.get?_update_self _ hx₁ rfl)
/-- a further one -/
theorem osa_oldT {K : W.Frag} {name : Str} {tk : Tok} {v : Value} {x C dx : Addr} {fv : Array Value} {cd : ClassData} {m0 : Str → Option Value} {nl : List Str} (T : BaseT B newId initId tl)
    (X : K.In hp) (hx : hp.get? x = some { cls := .ref C, dict := some dx, data := .fields fv }) (hns : hp.Ns1 dx m0) (hw : Within m0 nl) (hz : nl.length ≤ 1000) (hcd : W.clsIn K C = some cd) (hm : refsT tl cd.mro = true) (hh : cd.hasDict = true)
    (ha : W.findIn K (.ref C) name = some none)
    (hq : ∀ h' tk', (∀ b o, b ≠ dx → hp.get? b = some o → h'.get? b = some o) → h'.Ns1 dx (fun y => if y = name then some v else m0 y) → R (.ok (.ret .none)) ⟨h', g, d, tk', os⟩) :
    codeAny (model prog w) A (.call (.builtin "object.__setattr__") ⟨[.ref x, .str name tk, v], []⟩) R ⟨hp, g, d, t, os⟩ := by
  obtain ⟨oD, esD, epD, hoD, hdD, _⟩ := hns.count hw
  have I : W.InstAt hp x { cls := .ref C, dict := some dx, data := .fields fv } C (some oD) := ⟨hx, rfl, rfl, hoD⟩
  have SF := F.store_object
  have hob : cd.mro.contains (.type "object") = true := (refsT_contains "object" _ hm).trans T.obj
  have ne : cd.mro.isEmpty = false := by
    cases h : cd.mro with
    | nil => rw [h] at hob; cases hob
    | cons _ _ => rfl
  have sub : W.Looks (model prog w) hp (isInstance (.ref x) (.type "object")) true := I.type.andThen (W.looks_mroIn X (by unfold W.mroIn; rw [hcd, Option.bind_some, if_neg (by rw [ne]; decide), hob]))
  refine codeAny_call_builtin SF.slot.plain SF.entry (@W.check_slot (model prog w) _ _ ⟨hp, g, d, t, os⟩ "object.__setattr__" "object" "__setattr__" (.ref x) [.str name tk, v] [] _ SF.kind SF.split sub (SF.args (.ref x) (.str name tk) v) ?_)
  have hmr : W.Looks (model prog w) hp (mroOf (.ref C)) cd.mro := (W.looks_clsIn X hcd).andThen .now
  have L3 : W.Looks (model prog w) hp (storeTaker? none) none := .now
  have hcls : W.Looks (model prog w) hp (classData C) cd := W.looks_clsIn X hcd
  rw [W.osa_eq, refuse_eq]
  refine wpAny_bind (wpAny_bind (I.type.at (wpAny_bind (hmr.at ?_))))
  rw [refsT_pass T _ _ hm]
  refine wpAny_pure (wpAny_bind (I.type.at (wpAny_bind ((W.looks_findIn X ha).at (wpAny_bind (L3.at ?_))))))
  show wpAny _ _ (storeInOwnDict (.ref x) (.ref C) (.str name tk) name v false) _ _ _
  obtain ⟨nm, bs, mro, ns, qn, hd, sn, sb, ab, col, del⟩ := cd
  dsimp only at hh
  subst hh
  unfold storeInOwnDict ownDictForStores
  repeat (first | with_reducible refine PySem.OEX.store_in_old hns hw hz ?_ | with_reducible refine wpAny_loadPart_at hx ?_ | with_reducible refine hcls.at ?_ | wp_step)
  intro h' tk' hn' hs
  exact hq h' tk' (fun b o hb ho => (hs.2 b hb).trans ho) hn'
end
/-- what the written part says of such a class -/
structure OexA (K : PySem.W.Frag) (C : Addr) : Prop where
  cls : ∃ B newId initId tl, BaseT B newId initId tl ∧ ∃ nm q N bs bm sn sub ab col dd k0 k1 k2 k3 k5, K.lookup C = some (excClassObj nm q C N bs bm true sn sub ab col dd k0 k1 k2 k3 k5 newId) ∧ refsT tl bm = true
  sa : PySem.W.findIn K (.ref C) "__setattr__" = some (some (.builtin "object.__setattr__"))
  exC : PySem.W.subIn K (.ref C) (.type "BaseException") = some true
  tyC : PySem.W.typeIn K (.ref C) = some (.type "type")
  kC : PySem.W.keepIn K (.ref C) = true
section
variable {X : Cx} {pins : List (Addr × Obj)} {σ : L2.St} {H : Hp} {s : Shared} {a C dx : Addr} {f : Str} {y : V} {u : Value} {fs : List (Str × V)} {Q : Unit → Shared → Prop} {E : Value → Shared → Prop} {A : Around}
/-- self.f = y, the first one -/
theorem ost_newA (T : OexA X.K C) (I : Inv X pins σ H s) (e : H a = some (exo a C none)) (hno : PySem.W.findIn X.K (.ref C) f = some none) (ry : RelV y u)
    (h : ∀ dx s', H dx = none → dx ≠ a → Inv X pins σ (upd (upd H dx (exd dx [(f, y)])) a (exo a C (some dx))) s' → Q () s') : wpAny (model X.prog X.w) A (setAttr (.ref a) f u) Q E s := by
  obtain ⟨_, _, _, tl, BT, nm, q, N, bs, bm, sn, sub, ab, col, dd, k0, k1, k2, k3, k5, hC, hbm⟩ := T.cls
  have hcl : PySem.W.clsIn X.K C = some { name := nm, bases := bs, mro := .ref C :: bm, ns := N, qualname := q, hasDict := true, slotNames := sn, subclasses := sub, abstract := ab, collection := col, hasDel := false } := by unfold PySem.W.clsIn; rw [hC] <;> rfl
  obtain ⟨t1, ho⟩ := exo_at I.hok e
  obtain ⟨hp, g, d, t, os⟩ := s
  refine PySem.W.set_plain I.kIn (ox := { cls := .ref C, dict := none, data := .fields #[.ref t1, .none, .none, .none, .bool false, .none] }) (od := none) ⟨ho, rfl, rfl, trivial⟩ T.sa ?_
  refine osa_newT BT I.kIn ho hcl (show refsT tl (.ref C :: bm) = true from hbm) rfl hno (fun h' tk' dx k dn dne hx hn => ?_)
  have hnd : H dx = none := I.hok.fresh dn
  have nd : ∀ {b : Addr} {o : Obj}, hp.get? b = some o → b ≠ dx := fun {b o} q => Nat.ne_of_lt (Nat.lt_of_lt_of_le (Heap.lt_size q) dn)
  have na : ∀ {b : Addr}, H b = none → b ≠ a := fun {b} n z => by
    rw [z, e] at n
    cases n
  have Un1 : Un X.fs [] H (upd (upd H dx (exd dx [(f, y)])) a (exo a C (some dx))) hp h' := {
    keep := fun b o q n _ _ => k b o (na n) q
    slot := fun b o q n _ _ => ⟨o.slots, k b o (na n) q⟩
    free := fun b o q n _ => by rw [upd_ne (na n), upd_ne (nd q)]; exact n
    there := fun b o q _ => by
      by_cases hb : b = a
      · exact ⟨_, by rw [hb]; exact hx⟩
      · exact ⟨o, k b o hb q⟩
    tups := fun b xs q => by rw [upd_ne (at_ne e q exo_tup), upd_ne (ne_of_none q hnd)]; exact q
    frzs := fun b o v q => by rw [upd_ne (at_ne e q exo_frz), upd_ne (ne_of_none q hnd)]; exact q
    tbls := fun b ps q => ⟨#[], by rw [upd_ne (at_ne e q exo_tbl), upd_ne (ne_of_none q hnd), q]; simp⟩ }
  refine h dx _ hnd dne (I.un (t' := tk') Un1 fun b o q => ?_)
  by_cases hb : b = a
  · subst hb
    rw [upd_same] at q
    cases q
    exact exo_ok hx
  · rw [upd_ne hb] at q
    by_cases hd : b = dx
    · subst hd
      rw [upd_same] at q
      cases q
      exact exd_ok hn (relO_put (fs := []) ry fun g => True.intro)
    · rw [upd_ne hd] at q
      exact (I.hok b o q).stay (fun c v hc z => k c v (by
          rcases hc with hc | hc
          · rw [hc]
            exact hb
          · exact at_ne e hc exo_own) z)
        (fun c hc => by rw [upd_ne (at_ne e hc exo_own), upd_ne (ne_of_none hc hnd)]; exact hc) (fun c xs hc => by rw [upd_ne (at_ne e hc exo_tup), upd_ne (ne_of_none hc hnd)]; exact hc)
/-- self.f = y, a further one -/
theorem ost_oldA (T : OexA X.K C) (I : Inv X pins σ H s) (e : H a = some (exo a C (some dx))) (ed : H dx = some (exd dx fs)) (hl : fs.length ≤ 900) (hno : PySem.W.findIn X.K (.ref C) f = some none) (ry : RelV y u)
    (h : ∀ s', Inv X pins σ (upd H dx (exd dx ((f, y) :: fs))) s' → Q () s') : wpAny (model X.prog X.w) A (setAttr (.ref a) f u) Q E s := by
  obtain ⟨_, _, _, tl, BT, nm, q, N, bs, bm, sn, sub, ab, col, dd, k0, k1, k2, k3, k5, hC, hbm⟩ := T.cls
  have hcl : PySem.W.clsIn X.K C = some { name := nm, bases := bs, mro := .ref C :: bm, ns := N, qualname := q, hasDict := true, slotNames := sn, subclasses := sub, abstract := ab, collection := col, hasDel := false } := by unfold PySem.W.clsIn; rw [hC] <;> rfl
  obtain ⟨t1, ho⟩ := exo_at I.hok e
  obtain ⟨mA, hns, rel⟩ := exd_at I.hok ed
  have hw := within_of rel
  obtain ⟨hp, g, d, t, os⟩ := s
  obtain ⟨oD, _, _, hoD, _, _⟩ := hns.count hw
  refine PySem.W.set_plain I.kIn (ox := { cls := .ref C, dict := some dx, data := .fields #[.ref t1, .none, .none, .none, .bool false, .none] }) (od := some oD) ⟨ho, rfl, rfl, hoD⟩ T.sa ?_
  refine osa_oldT BT I.kIn ho hns hw (by rw [List.length_map]; omega) hcl (show refsT tl (.ref C :: bm) = true from hbm) rfl hno (fun h' tk' k hn => ?_)
  have hd : ∃ o, h'.get? dx = some o := by
    obtain ⟨o, _, _, e', _⟩ := hn
    exact ⟨o, e'⟩
  exact h _ (I.write (t' := tk') (x := dx) (e := dx) (o := exd dx ((f, y) :: fs)) (by rw [ed]; exact True.intro) (.inl rfl) k hd (exd_ok hn (relO_put ry rel)))
end
/-- self.f = e -/
def tOstA (K : PySem.W.Frag) (f : Str) (to te : TE) : TS := fun D σ H => te σ H fun y H1 => to σ H1 fun x H2 => ∃ a C : Addr, x = .ref a ∧ OexA K C ∧ PySem.W.findIn K (.ref C) f = some none ∧
  ((H2 a = some (exo a C none) ∧ ∀ dx, H2 dx = none → dx ≠ a → D.nx σ (upd (upd H2 dx (exd dx [(f, y)])) a (exo a C (some dx)))) ∨
    ∃ (dx : Addr) (fs : List (Str × V)), H2 a = some (exo a C (some dx)) ∧ H2 dx = some (exd dx fs) ∧ fs.length ≤ 900 ∧ D.nx σ (upd H2 dx (exd dx ((f, y) :: fs))))
section
variable {X : Cx} {o e : Expr} {es : List Expr} {to te : TE} {ta : TA} {f : Str} {p p' p1 p2 pos : Pos}
theorem ps_ostA (ho : PE X o to) (he : PE X e te) (hs : swapsWith e (some (.Attribute o f p')) pos.line X.env = pure false := by rfl) : PS X (.Assign [.Attribute o f p'] e pos) (tOstA X.K f to te) := by
  refine ⟨fun pins s σ H D I h => ?_⟩
  refine plainObj_wpAny_Assign_Attribute (thn (he.run pins s σ H _ I h) fun v s1 ⟨y, H1, I1, r1, q1⟩ => thn (ho.run pins s1 σ H1 _ I1 q1) fun u s2 ⟨x, H2, I2, r2, a, C, ex, T, hno, q⟩ => ?_) hs
  subst ex
  obtain rfl : u = Value.ref a := r2
  rcases q with ⟨ea, q⟩ | ⟨dx, fs, ea, ed, hl, q⟩
  · exact ost_newA T I2 ea hno r1 fun dx s' n ne J => ⟨σ, _, J, q dx n ne⟩
  · exact ost_oldA T I2 ea ed hl hno r1 fun s' J => ⟨σ, _, J, q⟩
/-- C(e, ..) of such a class -/
theorem pmk_oexA {CX : CXT} {x : Str} {C fI : Addr} {k : Nat} {fd : FuncData} {ps : List Str} {sp : Sp} {ds : List Value} {dvs : List V} (T : OexA X.K C) (iC : PySem.W.findIn X.K (.ref C) "__init__" = some (some (.ref fI))) (tI : PySem.W.typeIn X.K (.ref fI) = some (.type "function"))
    (F1 : FnOk X.prog X.w X.K X.mg X.base CX k fI fd ps sp) (hr : Room (k + 1) X.A) (hb : Binds X.K fd ps ds) (hd : Vals dvs ds) (hx : Passes CX X (fun _ _ _ => False)) (hg : Gl X x) (hm : X.mg x = some (.ref C)) (ha : PA X (e :: es) ta)
    (hdb : (x == ("__debug__" : Str)) = false := by decide) (he : starEach (e :: es) X.env = (false, eval e X.env) :: starEach es X.env := by rfl) (hpl : (backTo pos (starEach es X.env)).any (·.1) = false := by rfl) :
    PMk X (.Call (.Name x p) (e :: es) [] pos) (tMkO C sp dvs ta) := by
  intro pins s σ H Q I h
  obtain ⟨_, _, _, tl, BT, nm, q, N, bs, bm, sn, sub, ab, col, dd, k0, k1, k2, k3, k5, hC, hbm⟩ := T.cls
  refine wpAny_Call_Name_kw (ld_glob I hg hm ?_ hdb)
  refine PySem.W.callWith_K (h₀ := X.base) I.ok.mod.kin T.kC (thn (ha.run pos pins s σ H _ I h) fun us s1 ⟨vs, H1, I1, r1, hz, q1⟩ => ⟨I1.kIn, ?_⟩) he hpl
  show wpAny _ _ (call (.ref C) us) _ _ _
  obtain ⟨hp, g, dr, tk, os⟩ := s1
  have hsz : hp.objs.size ≤ hp.objs.size + 1 := Nat.le_succ _
  have hn : H1 (hp.objs.size + 1) = none := I1.hok.fresh hsz
  have hq := q1 (hp.objs.size + 1) hn
  have kk : ∀ b o, hp.get? b = some o → ((hp.push (PySem.W.kdv_tup us)).push (PySem.HandSPX.excO C hp.objs.size)).get? b = some o := fun b o e => Heap.get?_push_of_some _ (Heap.get?_push_of_some _ e)
  have hget : ((hp.push (PySem.W.kdv_tup us)).push (PySem.HandSPX.excO C hp.objs.size)).get? (hp.objs.size + 1) = some (PySem.HandSPX.excO C hp.objs.size) := by heap_get
  have I2 : Inv X pins σ (upd H1 (hp.objs.size + 1) (exo (hp.objs.size + 1) C none)) ⟨(hp.push (PySem.W.kdv_tup us)).push (PySem.HandSPX.excO C hp.objs.size), g, dr, tk, os⟩ :=
    I1.laid (t' := tk) (a := hp.objs.size + 1) (o := exo (hp.objs.size + 1) C none) (h' := (hp.push (PySem.W.kdv_tup us)).push (PySem.HandSPX.excO C hp.objs.size)) kk hsz (exo_ok hget)
  have r2 : Vals (V.ref (hp.objs.size + 1) :: (vs ++ dvs)) (Value.ref (hp.objs.size + 1) :: (us ++ ds)) := .cons rfl (r1.append hd)
  have hl : (Value.ref (hp.objs.size + 1) :: us ++ ds).length = ps.length := by
    have e := r2.length
    rw [F1.len _ _ _ _ hq] at e
    exact e.symm
  have hus : us.length ≤ sizeLine := by
    rw [← Paired.length r1, sizeLine_eq]
    omega
  refine wpAny_call (PySem.HandSPX.call_own BT.F (fun Y => refsT_contains Y bm hbm) (I1.kIn _ _ hC) (PySem.W.looks_findIn I1.kIn iC) (fun self => PySem.W.bind_fn I1.kIn self tI) hus
    (codeAny_mono (F1.run _ X.stack _ _ ⟨Value.ref (hp.objs.size + 1) :: us, []⟩ (Value.ref (hp.objs.size + 1) :: (us ++ ds)) _ _ (fun _ _ _ => False) (hr.make C us []) (I2.env0.make C us []) (hb _ (Value.ref (hp.objs.size + 1) :: us) I2.kIn hl) r2 hq) fun r s' hq' => ?_))
  cases r with
  | error er => exact hx pins σ _ _ er s' I2 hq'
  | ok fl =>
    cases fl with
    | ret u =>
      obtain ⟨v, H2, os2, bare2, un2, hok2, rv, ev, d, fs, ea, ed, hd1, q2⟩ := hq'
      subst ev
      obtain ⟨h2, g2, d2, t2, os'⟩ := s'
      exact ⟨rv, mk_end (raises_own T.exC T.tyC) I1 hsz kk un2 hok2 os2 bare2 ea ed hd1 q2⟩
    | next => exact False.elim hq'
    | brk => exact False.elim hq'
    | cont => exact False.elim hq'
end
/-- an own error with one field as those have it that raise it -/
structure XDefA (P : Program) (w : World) (K : PySem.W.Frag) (mg : Str → Option Value) (base : Heap) (x : Str) (C fI : Addr) (fld : Str) (ps : List Str) (fd : FuncData) : Prop where
  c : OexA K C
  iC : PySem.W.findIn K (.ref C) "__init__" = some (some (.ref fI))
  tI : PySem.W.typeIn K (.ref fI) = some (.type "function")
  ok : FnOk P w K mg base CX0 1 fI fd ps (spXi C fld)
  b : Binds K fd ps []
  mg_ : mg x = some (.ref C)
  te : PySem.W.exmOne K (.ref C) (.ref C) = some true
end Cs

set_option Elab.async false
set_option linter.all false
set_option maxRecDepth 100000
set_option maxHeartbeats 4000000
/-! Own errors held as values: made, their fields read, isinstance of them. -/
namespace Cs
open PySem PySem.Spec PyProof.Rows L2
open Builtin Builtin.ObjectAttr
/-- an error object of the class at C with these fields -/
def ErrAt (H : Hp) (p C : Addr) (fs : List (Str × V)) : Prop := ∃ d, H p = some (exo p C (some d)) ∧ H d = some (exd d fs)
theorem ErrAt.same {H H' : Hp} {p C : Addr} {fs : List (Str × V)} (s : Same H H') (h : ErrAt H p C fs) : ErrAt H' p C fs := by
  obtain ⟨d, h1, h2⟩ := h
  exact ⟨d, s _ _ h1, s _ _ h2⟩
def tMkV (C : Addr) (sp : Sp) (dvs : List V) (ta : TA) : TE := fun σ H Q => ta σ H fun vs H1 => vs.length ≤ 1000 ∧ ∀ a, H1 a = none → sp (.ref a :: (vs ++ dvs)) (upd H1 a (exo a C none)) (fun v H2 => v = .non ∧ Q (.ref a) H2) (fun _ _ _ => False)
section
variable {X : Cx} {o e : Expr} {es : List Expr} {to te : TE} {ta : TA} {f : Str} {p p' p1 p2 pos : Pos}
/-- C(e, ..) as a value -/
theorem pe_mkV {CX : CXT} {x : Str} {C fI : Addr} {k : Nat} {fd : FuncData} {ps : List Str} {sp : Sp} {ds : List Value} {dvs : List V} (T : OexA X.K C) (iC : PySem.W.findIn X.K (.ref C) "__init__" = some (some (.ref fI))) (tI : PySem.W.typeIn X.K (.ref fI) = some (.type "function"))
    (F1 : FnOk X.prog X.w X.K X.mg X.base CX k fI fd ps sp) (hr : Room (k + 1) X.A) (hb : Binds X.K fd ps ds) (hd : Vals dvs ds) (hx : Passes CX X (fun _ _ _ => False)) (hg : Gl X x) (hm : X.mg x = some (.ref C)) (ha : PA X (e :: es) ta)
    (hdb : (x == ("__debug__" : Str)) = false := by decide) (he : starEach (e :: es) X.env = (false, eval e X.env) :: starEach es X.env := by rfl) (hpl : (backTo pos (starEach es X.env)).any (·.1) = false := by rfl) :
    PE X (.Call (.Name x p) (e :: es) [] pos) (tMkV C sp dvs ta) := by
  refine ⟨fun pins s σ H Q I h => ?_⟩
  obtain ⟨_, _, _, tl, BT, nm, q, N, bs, bm, sn, sub, ab, col, dd, k0, k1, k2, k3, k5, hC, hbm⟩ := T.cls
  refine wpAny_Call_Name_kw (ld_glob I hg hm ?_ hdb)
  refine PySem.W.callWith_K (h₀ := X.base) I.ok.mod.kin T.kC (thn (ha.run pos pins s σ H _ I h) fun us s1 ⟨vs, H1, I1, r1, hz, q1⟩ => ⟨I1.kIn, ?_⟩) he hpl
  show wpAny _ _ (call (.ref C) us) _ _ _
  obtain ⟨hp, g, dr, tk, os⟩ := s1
  have hsz : hp.objs.size ≤ hp.objs.size + 1 := Nat.le_succ _
  have hn : H1 (hp.objs.size + 1) = none := I1.hok.fresh hsz
  have hq := q1 (hp.objs.size + 1) hn
  have kk : ∀ b o, hp.get? b = some o → ((hp.push (PySem.W.kdv_tup us)).push (PySem.HandSPX.excO C hp.objs.size)).get? b = some o := fun b o e => Heap.get?_push_of_some _ (Heap.get?_push_of_some _ e)
  have hget : ((hp.push (PySem.W.kdv_tup us)).push (PySem.HandSPX.excO C hp.objs.size)).get? (hp.objs.size + 1) = some (PySem.HandSPX.excO C hp.objs.size) := by heap_get
  have I2 : Inv X pins σ (upd H1 (hp.objs.size + 1) (exo (hp.objs.size + 1) C none)) ⟨(hp.push (PySem.W.kdv_tup us)).push (PySem.HandSPX.excO C hp.objs.size), g, dr, tk, os⟩ :=
    I1.laid (t' := tk) (a := hp.objs.size + 1) (o := exo (hp.objs.size + 1) C none) (h' := (hp.push (PySem.W.kdv_tup us)).push (PySem.HandSPX.excO C hp.objs.size)) kk hsz (exo_ok hget)
  have r2 : Vals (V.ref (hp.objs.size + 1) :: (vs ++ dvs)) (Value.ref (hp.objs.size + 1) :: (us ++ ds)) := .cons rfl (r1.append hd)
  have hl : (Value.ref (hp.objs.size + 1) :: us ++ ds).length = ps.length := by
    have e := r2.length
    rw [F1.len _ _ _ _ hq] at e
    exact e.symm
  have hus : us.length ≤ sizeLine := by
    rw [← Paired.length r1, sizeLine_eq]
    omega
  refine wpAny_call (PySem.HandSPX.call_own BT.F (fun Y => refsT_contains Y bm hbm) (I1.kIn _ _ hC) (PySem.W.looks_findIn I1.kIn iC) (fun self => PySem.W.bind_fn I1.kIn self tI) hus
    (codeAny_mono (F1.run _ X.stack _ _ ⟨Value.ref (hp.objs.size + 1) :: us, []⟩ (Value.ref (hp.objs.size + 1) :: (us ++ ds)) _ _ (fun _ _ _ => False) (hr.make C us []) (I2.env0.make C us []) (hb _ (Value.ref (hp.objs.size + 1) :: us) I2.kIn hl) r2 hq) fun r s' hq' => ?_))
  cases r with
  | error er => exact hx pins σ _ _ er s' I2 hq'
  | ok fl =>
    cases fl with
    | ret u =>
      obtain ⟨v, H2, J, rv, ev, q2⟩ := I2.after hq'
      subst ev
      exact ⟨rv, .ref _, H2, J, rfl, q2⟩
    | next => exact False.elim hq'
    | brk => exact False.elim hq'
    | cont => exact False.elim hq'
/-- C(), C without an own __init__ -/
theorem pe_mkV0 {C : Addr} {bmB : List Value} {B newId initId : String} {x : Str} (F : ExcBaseFacts B newId initId bmB) (q : PySem.W.excIn X.K C bmB newId = true) (gC : X.mg x = some (.ref C)) (kC : PySem.W.keepIn X.K (.ref C) = true) (hg : Gl X x)
    (hdb : (x == ("__debug__" : Str)) = false := by decide) :
    PE X (.Call (.Name x p) [] [] pos) (fun σ H Q => ∀ a, H a = none → Q (.ref a) (upd H a (ExO (.ref C) a))) := by
  refine ⟨fun pins s σ H Q I h => ?_⟩
  refine wpAny_Call_Name_kw (ld_glob I hg gC ?_ hdb)
  refine PySem.W.callWith_K0 I.kIn kC ?_
  show wpAny _ _ (call (.ref C) []) _ _ _
  obtain ⟨bm, N, nm, qn, bs, hdct, sn, sub, ab, col, dd, k0, k1, k2, k3, k5, mN, hC, hN, hni, T⟩ := exc_obj I.kIn q
  refine wpAny_call_exc_subT F T hC hN hni (fun h' a hm => ?_) (by show 0 ≤ sizeLine; rw [sizeLine_eq]; omega)
  have hn : H a = none := I.hok.gone hm.new
  obtain ⟨t, ht, _, _⟩ := hm.there
  exact ⟨.ref a, upd H a (ExO (.ref C) a), I.laidN hm.keeps hm.new hn (exO_ok ht ⟨rfl, rfl⟩ rfl rfl rfl (show 4 < 6 by decide)), rfl, h a hn⟩
/-- e.f of an error that is held -/
def tGetV (K : PySem.W.Frag) (te : TE) (f : Str) : TE := fun σ H Q => te σ H fun x H1 => ∃ (p C : Addr) (fs : List (Str × V)) (v : V), x = .ref p ∧ ErrAt H1 p C fs ∧ XfC K C ∧ PySem.W.findIn K (.ref C) f = some none ∧ fs.lookup f = some v ∧ Q v H1
theorem pe_getV (he : PE X e te) (hb : attributeBase e f X.env (eval e X.env) = eval e X.env := by rfl) : PE X (.Attribute e f pos) (tGetV X.K te f) := by
  refine ⟨fun pins s σ H Q I h => ?_⟩
  refine attr_of hb (thn (he.run pins s σ H _ I h) fun u s1 hh => ?_)
  obtain ⟨x, H1, I1, rx, p, C, fs, v, ex, ⟨d, ea, ed⟩, T, hno, l, q⟩ := hh
  subst ex
  obtain rfl : u = Value.ref p := rx
  obtain ⟨t0, ho⟩ := exo_at I1.hok ea
  obtain ⟨mA, hns, hr⟩ := exd_at I1.hok ed
  obtain ⟨od, hod, hl⟩ := lookIn_ns hns
  obtain ⟨u, hu, ru⟩ := RelO.some_of (v := v) (o := mA f) (by rw [← l]; exact hr f)
  have J : PySem.W.InstAt s1.heap p { cls := .ref C, dict := some d, data := .fields #[.ref t0, .none, .none, .none, .bool false, .none] } C (some od) := ⟨ho, rfl, rfl, hod⟩
  exact HandSPX.exc_get I1.kIn J T.ga T.gg T.exC (PySem.W.findObj_own T.hdC hno rfl (by rw [hl, hu])) (handed_of ru) ⟨v, H1, I1.tok _, ru, q⟩
/-- an error object: with fields, or without any -/
def AnyErr (H : Hp) (p C : Addr) : Prop := (∃ fs, ErrAt H p C fs) ∨ H p = some (ExO (.ref C) p)
theorem AnyErr.same {H H' : Hp} {p C : Addr} (s : Same H H') (h : AnyErr H p C) : AnyErr H' p C := by
  rcases h with ⟨fs, h⟩ | h
  · exact .inl ⟨fs, h.same s⟩
  · exact .inr (s _ _ h)
/-- isinstance(e, c) of an error that is held -/
def rIsV (K : PySem.W.Frag) : List V → Hp → VK → Prop := fun xs H Q => ∃ (p C : Addr) (c : V) (cv : Value) (b : Bool), xs = [.ref p, c] ∧ ExcC K C ∧ AnyErr H p C ∧ (∀ u, RelV c u → u = cv) ∧ PySem.W.kitOne K (.ref C) cv = some b ∧ Q (.bl b) H
theorem call_isV : CallR X (.builtin "isinstance") (rIsV X.K) := by
  intro pins s σ H xs us Q I r h
  obtain ⟨p, C, c, cv, b, rfl, T, ha, hcv, e, q⟩ := h
  cases r with
  | cons rx rr =>
    cases rr with
    | cons rt rr =>
      cases rr
      cases rx
      have ec := hcv _ rt
      subst ec
      rcases ha with ⟨fs, d, ea, ed⟩ | ea
      · obtain ⟨t0, ho⟩ := exo_at I.hok ea
        obtain ⟨mA, hns, hr⟩ := exd_at I.hok ed
        obtain ⟨od, hod, hl⟩ := lookIn_ns hns
        have J : PySem.W.InstAt s.heap p { cls := .ref C, dict := some d, data := .fields #[.ref t0, .none, .none, .none, .bool false, .none] } C (some od) := ⟨ho, rfl, rfl, hod⟩
        exact PySem.W.kia_one (exd_kit T) I.kIn J e (fun z => nomatch z) fun tk => ⟨.bl b, H, I.kept (t' := tk) fun _ _ z => z, rfl, q⟩
      · obtain ⟨⟨oe, vs, ho, hz, hd, h1, _⟩, _, _⟩ := I.hok p _ ea
        have J : PySem.W.InstAt s.heap p oe C none := ⟨ho, hz.1, by unfold PySem.W.notCls; rw [hd] <;> rfl, by rw [hz.2]; exact True.intro⟩
        exact PySem.W.kia_one (PySem.W.handS_kitx_exc T.hg T.hk T.hs T.hd T.ha T.hn T.ht T.hm) I.kIn J e (fun z => nomatch z) fun tk => ⟨.bl b, H, I.kept (t' := tk) fun _ _ z => z, rfl, q⟩
end
end Cs

set_option Elab.async false
set_option linter.all false
set_option maxRecDepth 100000
set_option maxHeartbeats 16000000
set_option pp.maxSteps 400

/-! The errors: their own __init__. -/
namespace Cs
open PySem L2
section
variable {P : Program} {w : World} {K : PySem.W.Frag} {mg : Str → Option Value} {base : Heap}
def enm : List Str := ["BadWord", "BadNumber", "BadCounts", "BadRule", "BadRules", "BadDoor", "Unfit", "BadDesk", "BadText", "NotLoose", "Named", "Full", "NoPick", "Broken", "BadHistory", "BadStanding", "BadWay", "NoWay", "NotKept", "TooMany", "NoDoor", "NoBegin", "NoOwner", "NoRow", "NoRule", "NoDivisor", "Waits", "Refused", "Over", "Busy"]
/-- __init__ of an own error: the fields, the last one ahead -/
def spXf (C : Addr) (fl : List Str) : Sp := fun vs H Q _ => ∃ (a : Addr) (ys : List V), vs = .ref a :: ys ∧ ys.length = fl.length ∧ H a = some (exo a C none) ∧ ∀ dx, H dx = none → dx ≠ a → Q .non (upd (upd H dx (exd dx (fl.zip ys).reverse)) a (exo a C (some dx)))
/-- an own error as those have it that make it -/
structure EDf (P : Program) (w : World) (K : PySem.W.Frag) (mg : Str → Option Value) (base : Heap) (x : Str) (C fI : Addr) (fl : List Str) (fd : FuncData) : Prop where
  c : OexA K C
  iC : PySem.W.findIn K (.ref C) "__init__" = some (some (.ref fI))
  tI : PySem.W.typeIn K (.ref fI) = some (.type "function")
  ok : FnOk P w K mg base CX0 1 fI fd ("self" :: fl) (spXf C fl)
  b : Binds K fd ("self" :: fl) []
  mg_ : mg x = some (.ref C)
  nf : ∀ z ∈ fl, PySem.W.findIn K (.ref C) z = some none
theorem mk_ev {C : Addr} {fl : List Str} {ys : List V} {H1 : Hp} {G : Addr → Hp → Prop} (hl : ys.length = fl.length) (h9 : ys.length ≤ 900) (k : ∀ p H', Same H1 H' → H1 p = none → ErrAt H' p C (fl.zip ys).reverse → G p H') :
    ys.length ≤ 1000 ∧ ∀ a, H1 a = none → spXf C fl (.ref a :: (ys ++ [])) (upd H1 a (exo a C none)) (fun v H2 => v = .non ∧ G a H2) (fun _ _ _ => False) := by
  rw [List.append_nil]
  refine ⟨by omega, fun a ha => ⟨a, ys, rfl, hl, upd_same, fun dx hdx ne => ⟨rfl, ?_⟩⟩⟩
  have hd : H1 dx = none := by rw [upd_ne ne] at hdx; exact hdx
  refine k a _ (fun b o e => ?_) ha ⟨dx, upd_same, by rw [upd_ne ne]; exact upd_same⟩
  have nb : b ≠ a := ne_of_none e ha
  have nd : b ≠ dx := ne_of_none e hd
  rw [upd_ne nb, upd_ne nd, upd_ne nb]
  exact e
theorem upd_mid {H : Hp} {a dx : Addr} {o1 o2 o3 : HO} (n : dx ≠ a) : upd (upd (upd H dx o1) a o2) dx o3 = upd (upd H dx o3) a o2 := by
  funext b
  by_cases c : b = dx
  · subst c
    rw [upd_same, upd_ne n, upd_same]
  · rw [upd_ne c]
    by_cases e : b = a
    · subst e
      rw [upd_same, upd_same]
    · rw [upd_ne e, upd_ne e, upd_ne c, upd_ne c]
theorem ok_xBadWord {B f : Addr} {fd : FuncData} (F : Fun K "__init__" "BadWord.__init__" s_BadWord_init f fd) (T : OexA K B) (h0 : PySem.W.findIn K (.ref B) "word" = some none) : FnOk P w K mg base CX0 1 f fd ["self", "word"] (spXf B ["word"]) := by
  refine F.ok sc_BadWord_init (fun vs H Q E h => ?_) (fun cdv A outer s H vs Q E hr h => ?_)
  · obtain ⟨_, ys, rfl, hl, _⟩ := h
    show ys.length + 1 = _
    rw [hl]
    rfl
  · obtain ⟨a, ys, rfl, hl, ha, k⟩ := h
    match ys, hl, k with
    | [y], _, k =>
      refine ⟨_, (pss_one (ps_ostA (pv 0) (pv 1))), ?_⟩
      exact ⟨_, rfl, _, rfl, a, B, rfl, T, h0, .inl ⟨ha, fun dx hdx ne => k dx hdx ne⟩⟩
theorem ok_xBadNumber {B f : Addr} {fd : FuncData} (F : Fun K "__init__" "BadNumber.__init__" s_BadNumber_init f fd) (T : OexA K B) (h0 : PySem.W.findIn K (.ref B) "number" = some none) : FnOk P w K mg base CX0 1 f fd ["self", "number"] (spXf B ["number"]) := by
  refine F.ok sc_BadNumber_init (fun vs H Q E h => ?_) (fun cdv A outer s H vs Q E hr h => ?_)
  · obtain ⟨_, ys, rfl, hl, _⟩ := h
    show ys.length + 1 = _
    rw [hl]
    rfl
  · obtain ⟨a, ys, rfl, hl, ha, k⟩ := h
    match ys, hl, k with
    | [y], _, k =>
      refine ⟨_, (pss_one (ps_ostA (pv 0) (pv 1))), ?_⟩
      exact ⟨_, rfl, _, rfl, a, B, rfl, T, h0, .inl ⟨ha, fun dx hdx ne => k dx hdx ne⟩⟩
theorem ok_xBadCounts {B f : Addr} {fd : FuncData} (F : Fun K "__init__" "BadCounts.__init__" s_BadCounts_init f fd) (T : OexA K B) (h0 : PySem.W.findIn K (.ref B) "at" = some none) : FnOk P w K mg base CX0 1 f fd ["self", "at"] (spXf B ["at"]) := by
  refine F.ok sc_BadCounts_init (fun vs H Q E h => ?_) (fun cdv A outer s H vs Q E hr h => ?_)
  · obtain ⟨_, ys, rfl, hl, _⟩ := h
    show ys.length + 1 = _
    rw [hl]
    rfl
  · obtain ⟨a, ys, rfl, hl, ha, k⟩ := h
    match ys, hl, k with
    | [y], _, k =>
      refine ⟨_, (pss_one (ps_ostA (pv 0) (pv 1))), ?_⟩
      exact ⟨_, rfl, _, rfl, a, B, rfl, T, h0, .inl ⟨ha, fun dx hdx ne => k dx hdx ne⟩⟩
theorem ok_xBadRule {B f : Addr} {fd : FuncData} (F : Fun K "__init__" "BadRule.__init__" s_BadRule_init f fd) (T : OexA K B) (h0 : PySem.W.findIn K (.ref B) "what" = some none) : FnOk P w K mg base CX0 1 f fd ["self", "what"] (spXf B ["what"]) := by
  refine F.ok sc_BadRule_init (fun vs H Q E h => ?_) (fun cdv A outer s H vs Q E hr h => ?_)
  · obtain ⟨_, ys, rfl, hl, _⟩ := h
    show ys.length + 1 = _
    rw [hl]
    rfl
  · obtain ⟨a, ys, rfl, hl, ha, k⟩ := h
    match ys, hl, k with
    | [y], _, k =>
      refine ⟨_, (pss_one (ps_ostA (pv 0) (pv 1))), ?_⟩
      exact ⟨_, rfl, _, rfl, a, B, rfl, T, h0, .inl ⟨ha, fun dx hdx ne => k dx hdx ne⟩⟩
theorem ok_xBadRules {B f : Addr} {fd : FuncData} (F : Fun K "__init__" "BadRules.__init__" s_BadRules_init f fd) (T : OexA K B) (h0 : PySem.W.findIn K (.ref B) "what" = some none) : FnOk P w K mg base CX0 1 f fd ["self", "what"] (spXf B ["what"]) := by
  refine F.ok sc_BadRules_init (fun vs H Q E h => ?_) (fun cdv A outer s H vs Q E hr h => ?_)
  · obtain ⟨_, ys, rfl, hl, _⟩ := h
    show ys.length + 1 = _
    rw [hl]
    rfl
  · obtain ⟨a, ys, rfl, hl, ha, k⟩ := h
    match ys, hl, k with
    | [y], _, k =>
      refine ⟨_, (pss_one (ps_ostA (pv 0) (pv 1))), ?_⟩
      exact ⟨_, rfl, _, rfl, a, B, rfl, T, h0, .inl ⟨ha, fun dx hdx ne => k dx hdx ne⟩⟩
theorem ok_xBadDoor {B f : Addr} {fd : FuncData} (F : Fun K "__init__" "BadDoor.__init__" s_BadDoor_init f fd) (T : OexA K B) (h0 : PySem.W.findIn K (.ref B) "at" = some none) : FnOk P w K mg base CX0 1 f fd ["self", "at"] (spXf B ["at"]) := by
  refine F.ok sc_BadDoor_init (fun vs H Q E h => ?_) (fun cdv A outer s H vs Q E hr h => ?_)
  · obtain ⟨_, ys, rfl, hl, _⟩ := h
    show ys.length + 1 = _
    rw [hl]
    rfl
  · obtain ⟨a, ys, rfl, hl, ha, k⟩ := h
    match ys, hl, k with
    | [y], _, k =>
      refine ⟨_, (pss_one (ps_ostA (pv 0) (pv 1))), ?_⟩
      exact ⟨_, rfl, _, rfl, a, B, rfl, T, h0, .inl ⟨ha, fun dx hdx ne => k dx hdx ne⟩⟩
theorem ok_xUnfit {B f : Addr} {fd : FuncData} (F : Fun K "__init__" "Unfit.__init__" s_Unfit_init f fd) (T : OexA K B) (h0 : PySem.W.findIn K (.ref B) "door" = some none) (h1 : PySem.W.findIn K (.ref B) "line" = some none) : FnOk P w K mg base CX0 1 f fd ["self", "door", "line"] (spXf B ["door", "line"]) := by
  refine F.ok sc_Unfit_init (fun vs H Q E h => ?_) (fun cdv A outer s H vs Q E hr h => ?_)
  · obtain ⟨_, ys, rfl, hl, _⟩ := h
    show ys.length + 1 = _
    rw [hl]
    rfl
  · obtain ⟨a, ys, rfl, hl, ha, k⟩ := h
    match ys, hl, k with
    | [y0, y1], _, k =>
      refine ⟨_, (pss_cons (ps_ostA (pv 0) (pv 1))
      (pss_one (ps_ostA (pv 0) (pv 2)))), ?_⟩
      refine ⟨_, rfl, _, rfl, a, B, rfl, T, h0, .inl ⟨ha, fun dx hdx ne => ?_⟩⟩
      have u1 : upd (upd (upd H dx (exd dx [("door", y0)])) a (exo a B (some dx))) dx (exd dx [("line", y1), ("door", y0)]) = upd (upd H dx (exd dx [("line", y1), ("door", y0)])) a (exo a B (some dx)) := upd_mid ne
      refine ⟨_, rfl, _, rfl, a, B, rfl, T, h1, .inr ⟨dx, _, upd_same, by rw [upd_ne ne]; exact upd_same, by show 1 ≤ 900; decide, ?_⟩⟩
      rw [u1]
      exact k dx hdx ne
theorem ok_xBadDesk {B f : Addr} {fd : FuncData} (F : Fun K "__init__" "BadDesk.__init__" s_BadDesk_init f fd) (T : OexA K B) (h0 : PySem.W.findIn K (.ref B) "what" = some none) : FnOk P w K mg base CX0 1 f fd ["self", "what"] (spXf B ["what"]) := by
  refine F.ok sc_BadDesk_init (fun vs H Q E h => ?_) (fun cdv A outer s H vs Q E hr h => ?_)
  · obtain ⟨_, ys, rfl, hl, _⟩ := h
    show ys.length + 1 = _
    rw [hl]
    rfl
  · obtain ⟨a, ys, rfl, hl, ha, k⟩ := h
    match ys, hl, k with
    | [y], _, k =>
      refine ⟨_, (pss_one (ps_ostA (pv 0) (pv 1))), ?_⟩
      exact ⟨_, rfl, _, rfl, a, B, rfl, T, h0, .inl ⟨ha, fun dx hdx ne => k dx hdx ne⟩⟩
theorem ok_xBadText {B f : Addr} {fd : FuncData} (F : Fun K "__init__" "BadText.__init__" s_BadText_init f fd) (T : OexA K B) (h0 : PySem.W.findIn K (.ref B) "at" = some none) : FnOk P w K mg base CX0 1 f fd ["self", "at"] (spXf B ["at"]) := by
  refine F.ok sc_BadText_init (fun vs H Q E h => ?_) (fun cdv A outer s H vs Q E hr h => ?_)
  · obtain ⟨_, ys, rfl, hl, _⟩ := h
    show ys.length + 1 = _
    rw [hl]
    rfl
  · obtain ⟨a, ys, rfl, hl, ha, k⟩ := h
    match ys, hl, k with
    | [y], _, k =>
      refine ⟨_, (pss_one (ps_ostA (pv 0) (pv 1))), ?_⟩
      exact ⟨_, rfl, _, rfl, a, B, rfl, T, h0, .inl ⟨ha, fun dx hdx ne => k dx hdx ne⟩⟩
theorem ok_xNotLoose {B f : Addr} {fd : FuncData} (F : Fun K "__init__" "NotLoose.__init__" s_NotLoose_init f fd) (T : OexA K B) (h0 : PySem.W.findIn K (.ref B) "kind" = some none) : FnOk P w K mg base CX0 1 f fd ["self", "kind"] (spXf B ["kind"]) := by
  refine F.ok sc_NotLoose_init (fun vs H Q E h => ?_) (fun cdv A outer s H vs Q E hr h => ?_)
  · obtain ⟨_, ys, rfl, hl, _⟩ := h
    show ys.length + 1 = _
    rw [hl]
    rfl
  · obtain ⟨a, ys, rfl, hl, ha, k⟩ := h
    match ys, hl, k with
    | [y], _, k =>
      refine ⟨_, (pss_one (ps_ostA (pv 0) (pv 1))), ?_⟩
      exact ⟨_, rfl, _, rfl, a, B, rfl, T, h0, .inl ⟨ha, fun dx hdx ne => k dx hdx ne⟩⟩
theorem ok_xNamed {B f : Addr} {fd : FuncData} (F : Fun K "__init__" "Named.__init__" s_Named_init f fd) (T : OexA K B) (h0 : PySem.W.findIn K (.ref B) "row" = some none) : FnOk P w K mg base CX0 1 f fd ["self", "row"] (spXf B ["row"]) := by
  refine F.ok sc_Named_init (fun vs H Q E h => ?_) (fun cdv A outer s H vs Q E hr h => ?_)
  · obtain ⟨_, ys, rfl, hl, _⟩ := h
    show ys.length + 1 = _
    rw [hl]
    rfl
  · obtain ⟨a, ys, rfl, hl, ha, k⟩ := h
    match ys, hl, k with
    | [y], _, k =>
      refine ⟨_, (pss_one (ps_ostA (pv 0) (pv 1))), ?_⟩
      exact ⟨_, rfl, _, rfl, a, B, rfl, T, h0, .inl ⟨ha, fun dx hdx ne => k dx hdx ne⟩⟩
theorem ok_xFull {B f : Addr} {fd : FuncData} (F : Fun K "__init__" "Full.__init__" s_Full_init f fd) (T : OexA K B) (h0 : PySem.W.findIn K (.ref B) "owner" = some none) : FnOk P w K mg base CX0 1 f fd ["self", "owner"] (spXf B ["owner"]) := by
  refine F.ok sc_Full_init (fun vs H Q E h => ?_) (fun cdv A outer s H vs Q E hr h => ?_)
  · obtain ⟨_, ys, rfl, hl, _⟩ := h
    show ys.length + 1 = _
    rw [hl]
    rfl
  · obtain ⟨a, ys, rfl, hl, ha, k⟩ := h
    match ys, hl, k with
    | [y], _, k =>
      refine ⟨_, (pss_one (ps_ostA (pv 0) (pv 1))), ?_⟩
      exact ⟨_, rfl, _, rfl, a, B, rfl, T, h0, .inl ⟨ha, fun dx hdx ne => k dx hdx ne⟩⟩
theorem ok_xNoPick {B f : Addr} {fd : FuncData} (F : Fun K "__init__" "NoPick.__init__" s_NoPick_init f fd) (T : OexA K B) (h0 : PySem.W.findIn K (.ref B) "pick" = some none) : FnOk P w K mg base CX0 1 f fd ["self", "pick"] (spXf B ["pick"]) := by
  refine F.ok sc_NoPick_init (fun vs H Q E h => ?_) (fun cdv A outer s H vs Q E hr h => ?_)
  · obtain ⟨_, ys, rfl, hl, _⟩ := h
    show ys.length + 1 = _
    rw [hl]
    rfl
  · obtain ⟨a, ys, rfl, hl, ha, k⟩ := h
    match ys, hl, k with
    | [y], _, k =>
      refine ⟨_, (pss_one (ps_ostA (pv 0) (pv 1))), ?_⟩
      exact ⟨_, rfl, _, rfl, a, B, rfl, T, h0, .inl ⟨ha, fun dx hdx ne => k dx hdx ne⟩⟩
theorem ok_xBroken {B f : Addr} {fd : FuncData} (F : Fun K "__init__" "Broken.__init__" s_Broken_init f fd) (T : OexA K B) (h0 : PySem.W.findIn K (.ref B) "rules" = some none) : FnOk P w K mg base CX0 1 f fd ["self", "rules"] (spXf B ["rules"]) := by
  refine F.ok sc_Broken_init (fun vs H Q E h => ?_) (fun cdv A outer s H vs Q E hr h => ?_)
  · obtain ⟨_, ys, rfl, hl, _⟩ := h
    show ys.length + 1 = _
    rw [hl]
    rfl
  · obtain ⟨a, ys, rfl, hl, ha, k⟩ := h
    match ys, hl, k with
    | [y], _, k =>
      refine ⟨_, (pss_one (ps_ostA (pv 0) (pv 1))), ?_⟩
      exact ⟨_, rfl, _, rfl, a, B, rfl, T, h0, .inl ⟨ha, fun dx hdx ne => k dx hdx ne⟩⟩
theorem ok_xBadHistory {B f : Addr} {fd : FuncData} (F : Fun K "__init__" "BadHistory.__init__" s_BadHistory_init f fd) (T : OexA K B) (h0 : PySem.W.findIn K (.ref B) "at" = some none) : FnOk P w K mg base CX0 1 f fd ["self", "at"] (spXf B ["at"]) := by
  refine F.ok sc_BadHistory_init (fun vs H Q E h => ?_) (fun cdv A outer s H vs Q E hr h => ?_)
  · obtain ⟨_, ys, rfl, hl, _⟩ := h
    show ys.length + 1 = _
    rw [hl]
    rfl
  · obtain ⟨a, ys, rfl, hl, ha, k⟩ := h
    match ys, hl, k with
    | [y], _, k =>
      refine ⟨_, (pss_one (ps_ostA (pv 0) (pv 1))), ?_⟩
      exact ⟨_, rfl, _, rfl, a, B, rfl, T, h0, .inl ⟨ha, fun dx hdx ne => k dx hdx ne⟩⟩
theorem ok_xBadStanding {B f : Addr} {fd : FuncData} (F : Fun K "__init__" "BadStanding.__init__" s_BadStanding_init f fd) (T : OexA K B) (h0 : PySem.W.findIn K (.ref B) "standing" = some none) : FnOk P w K mg base CX0 1 f fd ["self", "standing"] (spXf B ["standing"]) := by
  refine F.ok sc_BadStanding_init (fun vs H Q E h => ?_) (fun cdv A outer s H vs Q E hr h => ?_)
  · obtain ⟨_, ys, rfl, hl, _⟩ := h
    show ys.length + 1 = _
    rw [hl]
    rfl
  · obtain ⟨a, ys, rfl, hl, ha, k⟩ := h
    match ys, hl, k with
    | [y], _, k =>
      refine ⟨_, (pss_one (ps_ostA (pv 0) (pv 1))), ?_⟩
      exact ⟨_, rfl, _, rfl, a, B, rfl, T, h0, .inl ⟨ha, fun dx hdx ne => k dx hdx ne⟩⟩
theorem ok_xBadWay {B f : Addr} {fd : FuncData} (F : Fun K "__init__" "BadWay.__init__" s_BadWay_init f fd) (T : OexA K B) (h0 : PySem.W.findIn K (.ref B) "at" = some none) : FnOk P w K mg base CX0 1 f fd ["self", "at"] (spXf B ["at"]) := by
  refine F.ok sc_BadWay_init (fun vs H Q E h => ?_) (fun cdv A outer s H vs Q E hr h => ?_)
  · obtain ⟨_, ys, rfl, hl, _⟩ := h
    show ys.length + 1 = _
    rw [hl]
    rfl
  · obtain ⟨a, ys, rfl, hl, ha, k⟩ := h
    match ys, hl, k with
    | [y], _, k =>
      refine ⟨_, (pss_one (ps_ostA (pv 0) (pv 1))), ?_⟩
      exact ⟨_, rfl, _, rfl, a, B, rfl, T, h0, .inl ⟨ha, fun dx hdx ne => k dx hdx ne⟩⟩
theorem ok_xNoWay {B f : Addr} {fd : FuncData} (F : Fun K "__init__" "NoWay.__init__" s_NoWay_init f fd) (T : OexA K B) (h0 : PySem.W.findIn K (.ref B) "standing" = some none) : FnOk P w K mg base CX0 1 f fd ["self", "standing"] (spXf B ["standing"]) := by
  refine F.ok sc_NoWay_init (fun vs H Q E h => ?_) (fun cdv A outer s H vs Q E hr h => ?_)
  · obtain ⟨_, ys, rfl, hl, _⟩ := h
    show ys.length + 1 = _
    rw [hl]
    rfl
  · obtain ⟨a, ys, rfl, hl, ha, k⟩ := h
    match ys, hl, k with
    | [y], _, k =>
      refine ⟨_, (pss_one (ps_ostA (pv 0) (pv 1))), ?_⟩
      exact ⟨_, rfl, _, rfl, a, B, rfl, T, h0, .inl ⟨ha, fun dx hdx ne => k dx hdx ne⟩⟩
theorem ok_xTooMany {B f : Addr} {fd : FuncData} (F : Fun K "__init__" "TooMany.__init__" s_TooMany_init f fd) (T : OexA K B) (h0 : PySem.W.findIn K (.ref B) "what" = some none) : FnOk P w K mg base CX0 1 f fd ["self", "what"] (spXf B ["what"]) := by
  refine F.ok sc_TooMany_init (fun vs H Q E h => ?_) (fun cdv A outer s H vs Q E hr h => ?_)
  · obtain ⟨_, ys, rfl, hl, _⟩ := h
    show ys.length + 1 = _
    rw [hl]
    rfl
  · obtain ⟨a, ys, rfl, hl, ha, k⟩ := h
    match ys, hl, k with
    | [y], _, k =>
      refine ⟨_, (pss_one (ps_ostA (pv 0) (pv 1))), ?_⟩
      exact ⟨_, rfl, _, rfl, a, B, rfl, T, h0, .inl ⟨ha, fun dx hdx ne => k dx hdx ne⟩⟩
theorem ok_xNoDoor {B f : Addr} {fd : FuncData} (F : Fun K "__init__" "NoDoor.__init__" s_NoDoor_init f fd) (T : OexA K B) (h0 : PySem.W.findIn K (.ref B) "name" = some none) : FnOk P w K mg base CX0 1 f fd ["self", "name"] (spXf B ["name"]) := by
  refine F.ok sc_NoDoor_init (fun vs H Q E h => ?_) (fun cdv A outer s H vs Q E hr h => ?_)
  · obtain ⟨_, ys, rfl, hl, _⟩ := h
    show ys.length + 1 = _
    rw [hl]
    rfl
  · obtain ⟨a, ys, rfl, hl, ha, k⟩ := h
    match ys, hl, k with
    | [y], _, k =>
      refine ⟨_, (pss_one (ps_ostA (pv 0) (pv 1))), ?_⟩
      exact ⟨_, rfl, _, rfl, a, B, rfl, T, h0, .inl ⟨ha, fun dx hdx ne => k dx hdx ne⟩⟩
theorem ok_xNoBegin {B f : Addr} {fd : FuncData} (F : Fun K "__init__" "NoBegin.__init__" s_NoBegin_init f fd) (T : OexA K B) (h0 : PySem.W.findIn K (.ref B) "index" = some none) : FnOk P w K mg base CX0 1 f fd ["self", "index"] (spXf B ["index"]) := by
  refine F.ok sc_NoBegin_init (fun vs H Q E h => ?_) (fun cdv A outer s H vs Q E hr h => ?_)
  · obtain ⟨_, ys, rfl, hl, _⟩ := h
    show ys.length + 1 = _
    rw [hl]
    rfl
  · obtain ⟨a, ys, rfl, hl, ha, k⟩ := h
    match ys, hl, k with
    | [y], _, k =>
      refine ⟨_, (pss_one (ps_ostA (pv 0) (pv 1))), ?_⟩
      exact ⟨_, rfl, _, rfl, a, B, rfl, T, h0, .inl ⟨ha, fun dx hdx ne => k dx hdx ne⟩⟩
theorem ok_xNoOwner {B f : Addr} {fd : FuncData} (F : Fun K "__init__" "NoOwner.__init__" s_NoOwner_init f fd) (T : OexA K B) (h0 : PySem.W.findIn K (.ref B) "owner" = some none) : FnOk P w K mg base CX0 1 f fd ["self", "owner"] (spXf B ["owner"]) := by
  refine F.ok sc_NoOwner_init (fun vs H Q E h => ?_) (fun cdv A outer s H vs Q E hr h => ?_)
  · obtain ⟨_, ys, rfl, hl, _⟩ := h
    show ys.length + 1 = _
    rw [hl]
    rfl
  · obtain ⟨a, ys, rfl, hl, ha, k⟩ := h
    match ys, hl, k with
    | [y], _, k =>
      refine ⟨_, (pss_one (ps_ostA (pv 0) (pv 1))), ?_⟩
      exact ⟨_, rfl, _, rfl, a, B, rfl, T, h0, .inl ⟨ha, fun dx hdx ne => k dx hdx ne⟩⟩
theorem ok_xNoRow {B f : Addr} {fd : FuncData} (F : Fun K "__init__" "NoRow.__init__" s_NoRow_init f fd) (T : OexA K B) (h0 : PySem.W.findIn K (.ref B) "row" = some none) : FnOk P w K mg base CX0 1 f fd ["self", "row"] (spXf B ["row"]) := by
  refine F.ok sc_NoRow_init (fun vs H Q E h => ?_) (fun cdv A outer s H vs Q E hr h => ?_)
  · obtain ⟨_, ys, rfl, hl, _⟩ := h
    show ys.length + 1 = _
    rw [hl]
    rfl
  · obtain ⟨a, ys, rfl, hl, ha, k⟩ := h
    match ys, hl, k with
    | [y], _, k =>
      refine ⟨_, (pss_one (ps_ostA (pv 0) (pv 1))), ?_⟩
      exact ⟨_, rfl, _, rfl, a, B, rfl, T, h0, .inl ⟨ha, fun dx hdx ne => k dx hdx ne⟩⟩
theorem ok_xNoRule {B f : Addr} {fd : FuncData} (F : Fun K "__init__" "NoRule.__init__" s_NoRule_init f fd) (T : OexA K B) (h0 : PySem.W.findIn K (.ref B) "rule" = some none) : FnOk P w K mg base CX0 1 f fd ["self", "rule"] (spXf B ["rule"]) := by
  refine F.ok sc_NoRule_init (fun vs H Q E h => ?_) (fun cdv A outer s H vs Q E hr h => ?_)
  · obtain ⟨_, ys, rfl, hl, _⟩ := h
    show ys.length + 1 = _
    rw [hl]
    rfl
  · obtain ⟨a, ys, rfl, hl, ha, k⟩ := h
    match ys, hl, k with
    | [y], _, k =>
      refine ⟨_, (pss_one (ps_ostA (pv 0) (pv 1))), ?_⟩
      exact ⟨_, rfl, _, rfl, a, B, rfl, T, h0, .inl ⟨ha, fun dx hdx ne => k dx hdx ne⟩⟩
theorem ok_xNoDivisor {B f : Addr} {fd : FuncData} (F : Fun K "__init__" "NoDivisor.__init__" s_NoDivisor_init f fd) (T : OexA K B) (h0 : PySem.W.findIn K (.ref B) "word" = some none) : FnOk P w K mg base CX0 1 f fd ["self", "word"] (spXf B ["word"]) := by
  refine F.ok sc_NoDivisor_init (fun vs H Q E h => ?_) (fun cdv A outer s H vs Q E hr h => ?_)
  · obtain ⟨_, ys, rfl, hl, _⟩ := h
    show ys.length + 1 = _
    rw [hl]
    rfl
  · obtain ⟨a, ys, rfl, hl, ha, k⟩ := h
    match ys, hl, k with
    | [y], _, k =>
      refine ⟨_, (pss_one (ps_ostA (pv 0) (pv 1))), ?_⟩
      exact ⟨_, rfl, _, rfl, a, B, rfl, T, h0, .inl ⟨ha, fun dx hdx ne => k dx hdx ne⟩⟩
theorem ok_xWaits {B f : Addr} {fd : FuncData} (F : Fun K "__init__" "Waits.__init__" s_Waits_init f fd) (T : OexA K B) (h0 : PySem.W.findIn K (.ref B) "owner" = some none) : FnOk P w K mg base CX0 1 f fd ["self", "owner"] (spXf B ["owner"]) := by
  refine F.ok sc_Waits_init (fun vs H Q E h => ?_) (fun cdv A outer s H vs Q E hr h => ?_)
  · obtain ⟨_, ys, rfl, hl, _⟩ := h
    show ys.length + 1 = _
    rw [hl]
    rfl
  · obtain ⟨a, ys, rfl, hl, ha, k⟩ := h
    match ys, hl, k with
    | [y], _, k =>
      refine ⟨_, (pss_one (ps_ostA (pv 0) (pv 1))), ?_⟩
      exact ⟨_, rfl, _, rfl, a, B, rfl, T, h0, .inl ⟨ha, fun dx hdx ne => k dx hdx ne⟩⟩
theorem ok_xRefused {B f : Addr} {fd : FuncData} (F : Fun K "__init__" "Refused.__init__" s_Refused_init f fd) (T : OexA K B) (h0 : PySem.W.findIn K (.ref B) "door" = some none) (h1 : PySem.W.findIn K (.ref B) "line" = some none) (h2 : PySem.W.findIn K (.ref B) "why" = some none) : FnOk P w K mg base CX0 1 f fd ["self", "door", "line", "why"] (spXf B ["door", "line", "why"]) := by
  refine F.ok sc_Refused_init (fun vs H Q E h => ?_) (fun cdv A outer s H vs Q E hr h => ?_)
  · obtain ⟨_, ys, rfl, hl, _⟩ := h
    show ys.length + 1 = _
    rw [hl]
    rfl
  · obtain ⟨a, ys, rfl, hl, ha, k⟩ := h
    match ys, hl, k with
    | [y0, y1, y2], _, k =>
      refine ⟨_, (pss_cons (ps_ostA (pv 0) (pv 1))
      (pss_cons (ps_ostA (pv 0) (pv 2))
      (pss_one (ps_ostA (pv 0) (pv 3))))), ?_⟩
      refine ⟨_, rfl, _, rfl, a, B, rfl, T, h0, .inl ⟨ha, fun dx hdx ne => ?_⟩⟩
      have u1 : upd (upd (upd H dx (exd dx [("door", y0)])) a (exo a B (some dx))) dx (exd dx [("line", y1), ("door", y0)]) = upd (upd H dx (exd dx [("line", y1), ("door", y0)])) a (exo a B (some dx)) := upd_mid ne
      refine ⟨_, rfl, _, rfl, a, B, rfl, T, h1, .inr ⟨dx, _, upd_same, by rw [upd_ne ne]; exact upd_same, by show 1 ≤ 900; decide, ?_⟩⟩
      rw [u1]
      have u2 : upd (upd (upd H dx (exd dx [("line", y1), ("door", y0)])) a (exo a B (some dx))) dx (exd dx [("why", y2), ("line", y1), ("door", y0)]) = upd (upd H dx (exd dx [("why", y2), ("line", y1), ("door", y0)])) a (exo a B (some dx)) := upd_mid ne
      refine ⟨_, rfl, _, rfl, a, B, rfl, T, h2, .inr ⟨dx, _, upd_same, by rw [upd_ne ne]; exact upd_same, by show 2 ≤ 900; decide, ?_⟩⟩
      rw [u2]
      exact k dx hdx ne
theorem ok_xOver {B f : Addr} {fd : FuncData} (F : Fun K "__init__" "Over.__init__" s_Over_init f fd) (T : OexA K B) (h0 : PySem.W.findIn K (.ref B) "number" = some none) : FnOk P w K mg base CX0 1 f fd ["self", "number"] (spXf B ["number"]) := by
  refine F.ok sc_Over_init (fun vs H Q E h => ?_) (fun cdv A outer s H vs Q E hr h => ?_)
  · obtain ⟨_, ys, rfl, hl, _⟩ := h
    show ys.length + 1 = _
    rw [hl]
    rfl
  · obtain ⟨a, ys, rfl, hl, ha, k⟩ := h
    match ys, hl, k with
    | [y], _, k =>
      refine ⟨_, (pss_one (ps_ostA (pv 0) (pv 1))), ?_⟩
      exact ⟨_, rfl, _, rfl, a, B, rfl, T, h0, .inl ⟨ha, fun dx hdx ne => k dx hdx ne⟩⟩
theorem ok_xBusy {B f : Addr} {fd : FuncData} (F : Fun K "__init__" "Busy.__init__" s_Busy_init f fd) (T : OexA K B) (h0 : PySem.W.findIn K (.ref B) "owner" = some none) : FnOk P w K mg base CX0 1 f fd ["self", "owner"] (spXf B ["owner"]) := by
  refine F.ok sc_Busy_init (fun vs H Q E h => ?_) (fun cdv A outer s H vs Q E hr h => ?_)
  · obtain ⟨_, ys, rfl, hl, _⟩ := h
    show ys.length + 1 = _
    rw [hl]
    rfl
  · obtain ⟨a, ys, rfl, hl, ha, k⟩ := h
    match ys, hl, k with
    | [y], _, k =>
      refine ⟨_, (pss_one (ps_ostA (pv 0) (pv 1))), ?_⟩
      exact ⟨_, rfl, _, rfl, a, B, rfl, T, h0, .inl ⟨ha, fun dx hdx ne => k dx hdx ne⟩⟩
end
end Cs

set_option Elab.async false
set_option linter.all false
set_option maxRecDepth 100000
set_option maxHeartbeats 16000000
set_option pp.maxSteps 400

/-! The law of the errors made. -/
namespace Cs
open PySem L2
section
variable {P : Program} {w : World} {K : PySem.W.Frag} {mg : Str → Option Value} {base : Heap}
theorem Same.noneN {H H' : Hp} {q : Addr} (s : Same H H') (h : H' q = none) : H q = none := by
  cases e : H q with
  | none => rfl
  | some o => rw [s _ _ e] at h; cases h
theorem Same.updN {H H' : Hp} {q : Addr} {o : HO} (s : Same H H') (h : H q = none) : Same H (L2.upd H' q o) := fun b u e => by
  rw [upd_ne (ne_of_none e h)]
  exact s _ _ e
/-- a value of the law: its data, and whether it is a truth value -/
inductive Vl (H : Hp) : V → PyData → Bool → Prop
  | non : Vl H .non .none false
  | bl : Vl H (.bl true) (.bool true) true
  | int (i : Int) : Vl H (.int i) (.int i) false
  | str (z : Str) (h : Word z) : Vl H (.str z) (.str z) false
  | tup {t : Addr} (n : Int) (h : H t = some (.tup [.int n, .str "a"])) : Vl H (.ref t) (.tuple [.int n, .str "a"]) false
  | lst {l m : Addr} (n : Int) (h : H l = some (.lst [.int n, .ref m])) (h2 : H m = some (.lst [.non])) : Vl H (.ref l) (.list [.int n, .list [.none]]) false
theorem Vl.same {H H' : Hp} {v : V} {d : PyData} {b : Bool} (s : Same H H') (h : Vl H v d b) : Vl H' v d b := by
  cases h with
  | non => exact .non
  | bl => exact .bl
  | int i => exact .int i
  | str z h => exact .str z h
  | tup n h => exact .tup n (s _ _ h)
  | lst n h h2 => exact .lst n (s _ _ h) (s _ _ h2)
theorem Vl.kp {H H' : Hp} {p c : Addr} {v : V} {d : PyData} {b : Bool} (S : Src H p c) (k : Kp p H H') (h : Vl H v d b) : Vl H' v d b := by
  obtain ⟨ns, i, l, n, hp, _⟩ := S
  have key : ∀ {a : Addr} {o : HO}, H a = some o → o ≠ .lst [.ref c, .int i, .int l, .int n] → H' a = some o := fun {a o} e ne => k _ _ e fun q => ne (by rw [q, hp] at e; exact (Option.some.inj e).symm)
  cases h with
  | non => exact .non
  | bl => exact .bl
  | int i => exact .int i
  | str z h => exact .str z h
  | tup n h => exact .tup n (key h (by intro z; cases z))
  | lst n h h2 => exact .lst n (key h (by intro z; cases z)) (key h2 (by intro z; cases z))
theorem Vl.dp {H : Hp} {v : V} {d : PyData} {b : Bool} (h : Vl H v d b) : Dp K H v d := by
  cases h with
  | non => exact .non
  | bl => exact .bl _
  | int i => exact .int i
  | str z h => exact .str z
  | tup n h => exact .tup (SqT.of h) (.cons (.int n) (.cons (.str _) .nil))
  | lst n h h2 => exact .lst (SqL.of h) (.cons (.int n) (.cons (.lst (SqL.of h2) (.cons .non .nil)) .nil))
theorem word_ok33 {z : Str} (h : Word z) : PyData.strOk z = true := by
  unfold PyData.strOk
  rw [← Array.all_toList, List.all_eq_true]
  intro c hc
  have h1 := h.2.2 c hc
  have h2 : ∀ c ∈ LET.cps.toList, c < 0x110000 := by decide +kernel
  exact decide_eq_true (h2 c h1)
theorem Vl.can {H : Hp} {v : V} {d : PyData} {b : Bool} (h : Vl H v d b) : d.canLay0 = true ∧ d.depth ≤ 2 := by
  cases h with
  | non => exact ⟨rfl, by decide⟩
  | bl => exact ⟨rfl, by decide⟩
  | int i => exact ⟨rfl, by simp [PyData.depth]⟩
  | str z h =>
    refine ⟨?_, by simp [PyData.depth]⟩
    rw [PyData.canLay0]
    exact word_ok33 h
  | tup n h => exact ⟨by simp [PyData.canLay0, PyData.canLayAll0]; decide +kernel, by simp [PyData.depth, PyData.depthAll]⟩
  | lst n h h2 => exact ⟨rfl, by simp [PyData.depth, PyData.depthAll]⟩
theorem Vl.shaped {H : Hp} {v : V} {d : PyData} {b : Bool} (h : Vl H v d b) : SeqAt.shaped d = true := by
  unfold SeqAt.shaped
  rw [Bool.and_eq_true]
  exact ⟨h.can.1, decide_eq_true (Nat.le_trans h.can.2 (by decide))⟩
theorem Vl.ty {H : Hp} {v : V} {d : PyData} {b : Bool} (h : Vl H v d b) : ∃ ty, TyX K H v (.type ty) ∧ kitB ty "bool" = some b := by
  cases h with
  | non => exact ⟨_, .base .non, by decide +kernel⟩
  | bl => exact ⟨_, .base (.bl _), by decide +kernel⟩
  | int i => exact ⟨_, .base (.int i), by decide +kernel⟩
  | str z h => exact ⟨_, .base (.str z), by decide +kernel⟩
  | tup n h => exact ⟨_, .base (.tup h), by decide +kernel⟩
  | lst n h h2 => exact ⟨_, .base (.lst h), by decide +kernel⟩
def spValue : Sp := fun vs H Q _ => ∃ p c : Addr, vs = [.ref p] ∧ Src H p c ∧ ∀ v d b H', Vl H' v d b → Src H' p c → Kp p H H' → Q v H'
theorem ok_value {f fD fN fW : Addr} {fd fdD fdN fdW : FuncData} (F : Fun K "_law_value" "_law_value" s_l_value f fd) (g : Bi mg) (FD : Def P w K mg base CX0 2 "_law_draw" ["_law_source_here", "_law_size"] spDraw fD fdD) (FN : Def P w K mg base CX0 3 "_law_number" ["_law_source_here"] spNumber fN fdN)
    (FW : Def P w K mg base CX0 3 "_law_word" ["_law_source_here"] spWord fW fdW) : FnOk P w K mg base CX0 4 f fd ["_law_source_here"] spValue := by
  obtain ⟨GD, mD, _, bD⟩ := id FD
  obtain ⟨GN, mN, _, bN⟩ := id FN
  obtain ⟨GW, mW, _, bW⟩ := id FW
  refine F.ok sc_l_value (fun vs H Q E h => ?_) (fun cdv A outer s H vs Q E hr h => ?_)
  · obtain ⟨_, _, rfl, _⟩ := h
    rfl
  · obtain ⟨p, c, rfl, hS, k⟩ := h
    have hrD : Room 2 _ := hr.mono (by decide)
    have hrN : Room 3 _ := hr.mono (by decide)
    have hrW : Room 3 _ := hr.mono (by decide)
    refine ⟨_, (pss_cons (ps_set (i := 1) sc_l_value.nd rfl (Or.inl rfl) (pe_call GD hrD rfl mD FD.kp bD .nil pass0 (pa_cons (pv 0) (pa_cons pe_int pa_nil))))
      (pss_cons (ps_if (pt_cmpR op_lt (pv 1) pe_int (nomark _)) (pss_one (ps_ret (pe_call GN hrN rfl mN FN.kp bN .nil pass0 (pa_cons (pv 0) pa_nil)))) pss_nil)
      (pss_cons (ps_if (pt_cmpR op_eq (pv 1) pe_int (nomark _)) (pss_one (ps_ret (pe_call GW hrW rfl mW FW.kp bW .nil pass0 (pa_cons (pv 0) pa_nil)))) pss_nil)
      (pss_cons (ps_set (i := 2) sc_l_value.nd rfl (Or.inl rfl) (pe_call GN hrN rfl mN FN.kp bN .nil pass0 (pa_cons (pv 0) pa_nil)))
      (pss_one (ps_ret (pe_ix ix_list (pe_lst (pa_cons pe_non (pa_cons pe_bl (pa_cons (pe_tup (pa_cons (pv 2) (pa_cons pe_str pa_nil))) (pa_cons (pe_lst (pa_cons (pv 2) (pa_cons (pe_lst (pa_cons pe_non pa_nil)) pa_nil))) pa_nil))))) (pe_op op_sub (pv 1) pe_int) (fun _ _ => rfl)))))))), ?_⟩
    refine ⟨_, rfl, p, c, 7, rfl, hS, by decide, by decide, fun v H1 v0 v1 S1 k1 => ?_⟩
    refine ⟨_, rfl, _, _, rfl, rfl, _, rfl, ite2 (fun z => ?_) (fun z => ?_)⟩
    · exact ⟨_, rfl, p, c, rfl, S1, fun n H2 hn S2 k2 => k _ _ _ H2 (.int n) S2 (k1.trans k2)⟩
    refine ⟨_, rfl, rfl, _, rfl, ite2 (fun z2 => ?_) (fun z2 => ?_)⟩
    · exact ⟨_, rfl, p, c, rfl, S1, fun z H2 hz S2 k2 => k _ _ _ H2 (.str z hz) S2 (k1.trans k2)⟩
    refine ⟨_, rfl, p, c, rfl, S1, fun n H2 hn S2 k2 => ?_⟩
    refine ⟨_, rfl, by show 2 ≤ sizeLine; decide, fun t ht => ?_⟩
    refine ⟨_, rfl, by show 1 ≤ sizeLine; decide, fun m hm => ⟨by show 2 ≤ sizeLine; decide, fun l hl => ⟨by show 4 ≤ sizeLine; decide, fun L hL => ?_⟩⟩⟩
    have s1 := Same.new (o := .tup [.int n, .str "a"]) ht
    have s2 := Same.new (o := .lst [.non]) hm
    have s3 := Same.new (o := .lst [.int n, .ref m]) hl
    have s4 := Same.new (o := .lst [.non, .bl true, .ref t, .ref l]) hL
    have ss := ((s1.trans s2).trans s3).trans s4
    have et := s4 _ _ (s3 _ _ (s2 _ _ (upd_same (H := H2) (a := t) (o := .tup [.int n, .str "a"]))))
    have em := s4 _ _ (s3 _ _ (upd_same (a := m) (o := .lst [.non])))
    have el := s4 _ _ (upd_same (a := l) (o := .lst [.int n, .ref m]))
    refine ⟨_, rfl, _, _, rfl, rfl, ?_⟩
    have hv : v = 3 ∨ v = 4 ∨ v = 5 ∨ v = 6 := by
      have z' : ¬ v < 2 := of_decide_eq_false (by simpa using z)
      have z2' : ¬ v = 2 := fun q => by subst q; exact absurd z2 (by decide)
      omega
    have K := (k1.trans k2).trans (Kp.of ss)
    have SS := S2.same ss
    rcases hv with q | q | q | q <;> subst q
    · exact ⟨L, _, 0, _, rfl, rfl, SqL.of upd_same, rfl, k _ _ _ _ .non SS K⟩
    · exact ⟨L, _, 1, _, rfl, rfl, SqL.of upd_same, rfl, k _ _ _ _ .bl SS K⟩
    · exact ⟨L, _, 2, _, rfl, rfl, SqL.of upd_same, rfl, k _ _ _ _ (.tup n et) SS K⟩
    · exact ⟨L, _, 3, _, rfl, rfl, SqL.of upd_same, rfl, k _ _ _ _ (.lst n el em) SS K⟩

/-- what the classes at A are to each other -/
structure E30 (K : PySem.W.Frag) (mg : Str → Option Value) (A : Nat → Addr) (ce : Addr) : Prop where
  m : ∀ i, i < 30 → mg (enm.getD i "") = some (.ref (A i))
  mc : mg "CountsheldError" = some (.ref ce)
  ec : ∀ i, i < 30 → ExcC K (A i)
  kit : ∀ i j, i < 30 → j < 30 → PySem.W.kitOne K (.ref (A i)) (.ref (A j)) = some (decide (i = j))
  k0 : ∀ i, i < 30 → PySem.W.kitOne K (.ref (A i)) (.ref ce) = some (decide (i < 20))
  k1 : ∀ i, i < 30 → PySem.W.kitOne K (.ref (A i)) (.type "ValueError") = some (decide (i < 20))
  k2 : ∀ i, i < 30 → PySem.W.kitOne K (.ref (A i)) (.type "LookupError") = some (decide (20 ≤ i ∧ i < 25))
  k3 : ∀ i, i < 30 → PySem.W.kitOne K (.ref (A i)) (.type "ZeroDivisionError") = some (decide (i = 25))
  k4 : ∀ i, i < 30 → PySem.W.kitOne K (.ref (A i)) (.type "RuntimeError") = some (decide (25 < i))
def blL (f : Nat → Bool) (n : Nat) : List V := (List.range n).map fun j => V.bl (f j)
def spIsE (A : Nat → Addr) (f : Nat → Nat → Bool) (n : Nat) : Sp := fun vs H Q _ => ∃ (p : Addr) (i : Nat), vs = [.ref p] ∧ i < 30 ∧ AnyErr H p (A i) ∧ ∀ q H', Same H H' → H' q = some (.lst (blL (f i) n)) → Q (.ref q) H'
def baseF (i j : Nat) : Bool := if j = 0 then decide (i < 20) else if j = 1 then decide (i < 20) else if j = 2 then decide (20 ≤ i ∧ i < 25) else if j = 3 then decide (i = 25) else decide (25 < i)

theorem ok_first {f ce : Addr} {fd : FuncData} {A : Nat → Addr} (F : Fun K "_law_first" "_law_first" s_l_first f fd) (g : Bi mg) (E : E30 K mg A ce) : FnOk P w K mg base CX0 1 f fd ["_law_e"] (spIsE A (fun i j => decide (i = j)) 20) := by
  have mBadWord : mg "BadWord" = some (.ref (A 0)) := E.m 0 (by decide)
  have mBadNumber : mg "BadNumber" = some (.ref (A 1)) := E.m 1 (by decide)
  have mBadCounts : mg "BadCounts" = some (.ref (A 2)) := E.m 2 (by decide)
  have mBadRule : mg "BadRule" = some (.ref (A 3)) := E.m 3 (by decide)
  have mBadRules : mg "BadRules" = some (.ref (A 4)) := E.m 4 (by decide)
  have mBadDoor : mg "BadDoor" = some (.ref (A 5)) := E.m 5 (by decide)
  have mUnfit : mg "Unfit" = some (.ref (A 6)) := E.m 6 (by decide)
  have mBadDesk : mg "BadDesk" = some (.ref (A 7)) := E.m 7 (by decide)
  have mBadText : mg "BadText" = some (.ref (A 8)) := E.m 8 (by decide)
  have mNotLoose : mg "NotLoose" = some (.ref (A 9)) := E.m 9 (by decide)
  have mNamed : mg "Named" = some (.ref (A 10)) := E.m 10 (by decide)
  have mFull : mg "Full" = some (.ref (A 11)) := E.m 11 (by decide)
  have mNoPick : mg "NoPick" = some (.ref (A 12)) := E.m 12 (by decide)
  have mBroken : mg "Broken" = some (.ref (A 13)) := E.m 13 (by decide)
  have mBadHistory : mg "BadHistory" = some (.ref (A 14)) := E.m 14 (by decide)
  have mBadStanding : mg "BadStanding" = some (.ref (A 15)) := E.m 15 (by decide)
  have mBadWay : mg "BadWay" = some (.ref (A 16)) := E.m 16 (by decide)
  have mNoWay : mg "NoWay" = some (.ref (A 17)) := E.m 17 (by decide)
  have mNotKept : mg "NotKept" = some (.ref (A 18)) := E.m 18 (by decide)
  have mTooMany : mg "TooMany" = some (.ref (A 19)) := E.m 19 (by decide)
  refine F.ok sc_l_first (fun vs H Q E h => ?_) (fun cdv A' outer s H vs Q E' hr h => ?_)
  · obtain ⟨_, _, rfl, _⟩ := h
    rfl
  · obtain ⟨p, i, rfl, hi, ha, k⟩ := h
    refine ⟨_, (pss_cons (ps_set (i := 1) sc_l_first.nd rfl (Or.inl rfl) (pe_lst (pa_cons (pe_callB call_isV (by rfl) g.isinstance (by decide +kernel) (pa_cons (pv 0) (pa_cons (pe_glob (v := .ref (A 0)) rfl mBadWord rfl) pa_nil))) (pa_cons (pe_callB call_isV (by rfl) g.isinstance (by decide +kernel) (pa_cons (pv 0) (pa_cons (pe_glob (v := .ref (A 1)) rfl mBadNumber rfl) pa_nil))) (pa_cons (pe_callB call_isV (by rfl) g.isinstance (by decide +kernel) (pa_cons (pv 0) (pa_cons (pe_glob (v := .ref (A 2)) rfl mBadCounts rfl) pa_nil))) (pa_cons (pe_callB call_isV (by rfl) g.isinstance (by decide +kernel) (pa_cons (pv 0) (pa_cons (pe_glob (v := .ref (A 3)) rfl mBadRule rfl) pa_nil))) pa_nil))))))
      (pss_cons (ps_set (i := 1) sc_l_first.nd rfl (Or.inl rfl) (pe_op op_cat (pv 1) (pe_lst (pa_cons (pe_callB call_isV (by rfl) g.isinstance (by decide +kernel) (pa_cons (pv 0) (pa_cons (pe_glob (v := .ref (A 4)) rfl mBadRules rfl) pa_nil))) (pa_cons (pe_callB call_isV (by rfl) g.isinstance (by decide +kernel) (pa_cons (pv 0) (pa_cons (pe_glob (v := .ref (A 5)) rfl mBadDoor rfl) pa_nil))) (pa_cons (pe_callB call_isV (by rfl) g.isinstance (by decide +kernel) (pa_cons (pv 0) (pa_cons (pe_glob (v := .ref (A 6)) rfl mUnfit rfl) pa_nil))) (pa_cons (pe_callB call_isV (by rfl) g.isinstance (by decide +kernel) (pa_cons (pv 0) (pa_cons (pe_glob (v := .ref (A 7)) rfl mBadDesk rfl) pa_nil))) pa_nil)))))))
      (pss_cons (ps_set (i := 1) sc_l_first.nd rfl (Or.inl rfl) (pe_op op_cat (pv 1) (pe_lst (pa_cons (pe_callB call_isV (by rfl) g.isinstance (by decide +kernel) (pa_cons (pv 0) (pa_cons (pe_glob (v := .ref (A 8)) rfl mBadText rfl) pa_nil))) (pa_cons (pe_callB call_isV (by rfl) g.isinstance (by decide +kernel) (pa_cons (pv 0) (pa_cons (pe_glob (v := .ref (A 9)) rfl mNotLoose rfl) pa_nil))) (pa_cons (pe_callB call_isV (by rfl) g.isinstance (by decide +kernel) (pa_cons (pv 0) (pa_cons (pe_glob (v := .ref (A 10)) rfl mNamed rfl) pa_nil))) (pa_cons (pe_callB call_isV (by rfl) g.isinstance (by decide +kernel) (pa_cons (pv 0) (pa_cons (pe_glob (v := .ref (A 11)) rfl mFull rfl) pa_nil))) pa_nil)))))))
      (pss_cons (ps_set (i := 1) sc_l_first.nd rfl (Or.inl rfl) (pe_op op_cat (pv 1) (pe_lst (pa_cons (pe_callB call_isV (by rfl) g.isinstance (by decide +kernel) (pa_cons (pv 0) (pa_cons (pe_glob (v := .ref (A 12)) rfl mNoPick rfl) pa_nil))) (pa_cons (pe_callB call_isV (by rfl) g.isinstance (by decide +kernel) (pa_cons (pv 0) (pa_cons (pe_glob (v := .ref (A 13)) rfl mBroken rfl) pa_nil))) (pa_cons (pe_callB call_isV (by rfl) g.isinstance (by decide +kernel) (pa_cons (pv 0) (pa_cons (pe_glob (v := .ref (A 14)) rfl mBadHistory rfl) pa_nil))) pa_nil))))))
      (pss_cons (ps_expr (pe_bm PySem.F.plainAttrs_list PySem.F.slot_list_append PySem.F.type_list_append mt_append (pv 1) (pa_cons (pe_callB call_isV (by rfl) g.isinstance (by decide +kernel) (pa_cons (pv 0) (pa_cons (pe_glob (v := .ref (A 15)) rfl mBadStanding rfl) pa_nil))) pa_nil)))
      (pss_one (ps_ret (pe_op op_cat (pv 1) (pe_lst (pa_cons (pe_callB call_isV (by rfl) g.isinstance (by decide +kernel) (pa_cons (pv 0) (pa_cons (pe_glob (v := .ref (A 16)) rfl mBadWay rfl) pa_nil))) (pa_cons (pe_callB call_isV (by rfl) g.isinstance (by decide +kernel) (pa_cons (pv 0) (pa_cons (pe_glob (v := .ref (A 17)) rfl mNoWay rfl) pa_nil))) (pa_cons (pe_callB call_isV (by rfl) g.isinstance (by decide +kernel) (pa_cons (pv 0) (pa_cons (pe_glob (v := .ref (A 18)) rfl mNotKept rfl) pa_nil))) (pa_cons (pe_callB call_isV (by rfl) g.isinstance (by decide +kernel) (pa_cons (pv 0) (pa_cons (pe_glob (v := .ref (A 19)) rfl mTooMany rfl) pa_nil))) pa_nil))))))))))))), ?_⟩
    have ha0 := ha
    have c0 : Same H H := Same.refl H
    refine ⟨_, rfl, p, A i, _, _, _, rfl, E.ec i hi, ha0, fun _ u => u, E.kit i 0 hi (by decide), ?_⟩
    refine ⟨_, rfl, p, A i, _, _, _, rfl, E.ec i hi, ha0, fun _ u => u, E.kit i 1 hi (by decide), ?_⟩
    refine ⟨_, rfl, p, A i, _, _, _, rfl, E.ec i hi, ha0, fun _ u => u, E.kit i 2 hi (by decide), ?_⟩
    refine ⟨_, rfl, p, A i, _, _, _, rfl, E.ec i hi, ha0, fun _ u => u, E.kit i 3 hi (by decide), ?_⟩
    refine ⟨by show 4 ≤ sizeLine; decide, fun d0 hd0 => ?_⟩
    have s1 := Same.new (o := .lst [.bl (decide (i = 0)), .bl (decide (i = 1)), .bl (decide (i = 2)), .bl (decide (i = 3))]) hd0
    have e1 := upd_same (H := H) (a := d0) (o := .lst [.bl (decide (i = 0)), .bl (decide (i = 1)), .bl (decide (i = 2)), .bl (decide (i = 3))])
    generalize upd H d0 (.lst [.bl (decide (i = 0)), .bl (decide (i = 1)), .bl (decide (i = 2)), .bl (decide (i = 3))]) = H1 at s1 e1 ⊢
    have c1 := c0.trans s1
    have ha1 := ha.same c1
    refine ⟨_, rfl, ?_⟩
    refine ⟨_, rfl, p, A i, _, _, _, rfl, E.ec i hi, ha1, fun _ u => u, E.kit i 4 hi (by decide), ?_⟩
    refine ⟨_, rfl, p, A i, _, _, _, rfl, E.ec i hi, ha1, fun _ u => u, E.kit i 5 hi (by decide), ?_⟩
    refine ⟨_, rfl, p, A i, _, _, _, rfl, E.ec i hi, ha1, fun _ u => u, E.kit i 6 hi (by decide), ?_⟩
    refine ⟨_, rfl, p, A i, _, _, _, rfl, E.ec i hi, ha1, fun _ u => u, E.kit i 7 hi (by decide), ?_⟩
    refine ⟨by show 4 ≤ sizeLine; decide, fun d1 hd1 => ?_⟩
    have s2 := Same.new (o := .lst [.bl (decide (i = 4)), .bl (decide (i = 5)), .bl (decide (i = 6)), .bl (decide (i = 7))]) hd1
    have e2 := upd_same (H := H1) (a := d1) (o := .lst [.bl (decide (i = 4)), .bl (decide (i = 5)), .bl (decide (i = 6)), .bl (decide (i = 7))])
    generalize upd H1 d1 (.lst [.bl (decide (i = 4)), .bl (decide (i = 5)), .bl (decide (i = 6)), .bl (decide (i = 7))]) = H2 at s2 e2 ⊢
    have c2 := c1.trans s2
    have ha2 := ha.same c2
    refine ⟨d0, d1, _, _, rfl, rfl, s2 _ _ e1, e2, by show 8 ≤ sizeLine; decide, fun q1 hq1 => ?_⟩
    have s3 := Same.new (o := .lst ([.bl (decide (i = 0)), .bl (decide (i = 1)), .bl (decide (i = 2)), .bl (decide (i = 3))] ++ [.bl (decide (i = 4)), .bl (decide (i = 5)), .bl (decide (i = 6)), .bl (decide (i = 7))])) hq1
    have e3 := upd_same (H := H2) (a := q1) (o := .lst ([.bl (decide (i = 0)), .bl (decide (i = 1)), .bl (decide (i = 2)), .bl (decide (i = 3))] ++ [.bl (decide (i = 4)), .bl (decide (i = 5)), .bl (decide (i = 6)), .bl (decide (i = 7))]))
    generalize upd H2 q1 (.lst ([.bl (decide (i = 0)), .bl (decide (i = 1)), .bl (decide (i = 2)), .bl (decide (i = 3))] ++ [.bl (decide (i = 4)), .bl (decide (i = 5)), .bl (decide (i = 6)), .bl (decide (i = 7))])) = H3 at s3 e3 ⊢
    have e3 : H3 q1 = some (.lst [.bl (decide (i = 0)), .bl (decide (i = 1)), .bl (decide (i = 2)), .bl (decide (i = 3)), .bl (decide (i = 4)), .bl (decide (i = 5)), .bl (decide (i = 6)), .bl (decide (i = 7))]) := e3
    have c3 := c2.trans s3
    have ha3 := ha.same c3
    refine ⟨_, rfl, ?_⟩
    refine ⟨_, rfl, p, A i, _, _, _, rfl, E.ec i hi, ha3, fun _ u => u, E.kit i 8 hi (by decide), ?_⟩
    refine ⟨_, rfl, p, A i, _, _, _, rfl, E.ec i hi, ha3, fun _ u => u, E.kit i 9 hi (by decide), ?_⟩
    refine ⟨_, rfl, p, A i, _, _, _, rfl, E.ec i hi, ha3, fun _ u => u, E.kit i 10 hi (by decide), ?_⟩
    refine ⟨_, rfl, p, A i, _, _, _, rfl, E.ec i hi, ha3, fun _ u => u, E.kit i 11 hi (by decide), ?_⟩
    refine ⟨by show 4 ≤ sizeLine; decide, fun d2 hd2 => ?_⟩
    have s4 := Same.new (o := .lst [.bl (decide (i = 8)), .bl (decide (i = 9)), .bl (decide (i = 10)), .bl (decide (i = 11))]) hd2
    have e4 := upd_same (H := H3) (a := d2) (o := .lst [.bl (decide (i = 8)), .bl (decide (i = 9)), .bl (decide (i = 10)), .bl (decide (i = 11))])
    generalize upd H3 d2 (.lst [.bl (decide (i = 8)), .bl (decide (i = 9)), .bl (decide (i = 10)), .bl (decide (i = 11))]) = H4 at s4 e4 ⊢
    have c4 := c3.trans s4
    have ha4 := ha.same c4
    refine ⟨q1, d2, _, _, rfl, rfl, s4 _ _ e3, e4, by show 12 ≤ sizeLine; decide, fun q2 hq2 => ?_⟩
    have s5 := Same.new (o := .lst ([.bl (decide (i = 0)), .bl (decide (i = 1)), .bl (decide (i = 2)), .bl (decide (i = 3)), .bl (decide (i = 4)), .bl (decide (i = 5)), .bl (decide (i = 6)), .bl (decide (i = 7))] ++ [.bl (decide (i = 8)), .bl (decide (i = 9)), .bl (decide (i = 10)), .bl (decide (i = 11))])) hq2
    have e5 := upd_same (H := H4) (a := q2) (o := .lst ([.bl (decide (i = 0)), .bl (decide (i = 1)), .bl (decide (i = 2)), .bl (decide (i = 3)), .bl (decide (i = 4)), .bl (decide (i = 5)), .bl (decide (i = 6)), .bl (decide (i = 7))] ++ [.bl (decide (i = 8)), .bl (decide (i = 9)), .bl (decide (i = 10)), .bl (decide (i = 11))]))
    generalize upd H4 q2 (.lst ([.bl (decide (i = 0)), .bl (decide (i = 1)), .bl (decide (i = 2)), .bl (decide (i = 3)), .bl (decide (i = 4)), .bl (decide (i = 5)), .bl (decide (i = 6)), .bl (decide (i = 7))] ++ [.bl (decide (i = 8)), .bl (decide (i = 9)), .bl (decide (i = 10)), .bl (decide (i = 11))])) = H5 at s5 e5 ⊢
    have e5 : H5 q2 = some (.lst [.bl (decide (i = 0)), .bl (decide (i = 1)), .bl (decide (i = 2)), .bl (decide (i = 3)), .bl (decide (i = 4)), .bl (decide (i = 5)), .bl (decide (i = 6)), .bl (decide (i = 7)), .bl (decide (i = 8)), .bl (decide (i = 9)), .bl (decide (i = 10)), .bl (decide (i = 11))]) := e5
    have c5 := c4.trans s5
    have ha5 := ha.same c5
    refine ⟨_, rfl, ?_⟩
    refine ⟨_, rfl, p, A i, _, _, _, rfl, E.ec i hi, ha5, fun _ u => u, E.kit i 12 hi (by decide), ?_⟩
    refine ⟨_, rfl, p, A i, _, _, _, rfl, E.ec i hi, ha5, fun _ u => u, E.kit i 13 hi (by decide), ?_⟩
    refine ⟨_, rfl, p, A i, _, _, _, rfl, E.ec i hi, ha5, fun _ u => u, E.kit i 14 hi (by decide), ?_⟩
    refine ⟨by show 3 ≤ sizeLine; decide, fun d3 hd3 => ?_⟩
    have s6 := Same.new (o := .lst [.bl (decide (i = 12)), .bl (decide (i = 13)), .bl (decide (i = 14))]) hd3
    have e6 := upd_same (H := H5) (a := d3) (o := .lst [.bl (decide (i = 12)), .bl (decide (i = 13)), .bl (decide (i = 14))])
    generalize upd H5 d3 (.lst [.bl (decide (i = 12)), .bl (decide (i = 13)), .bl (decide (i = 14))]) = H6 at s6 e6 ⊢
    have c6 := c5.trans s6
    have ha6 := ha.same c6
    refine ⟨q2, d3, _, _, rfl, rfl, s6 _ _ e5, e6, by show 15 ≤ sizeLine; decide, fun q3 hq3 => ?_⟩
    have s7 := Same.new (o := .lst ([.bl (decide (i = 0)), .bl (decide (i = 1)), .bl (decide (i = 2)), .bl (decide (i = 3)), .bl (decide (i = 4)), .bl (decide (i = 5)), .bl (decide (i = 6)), .bl (decide (i = 7)), .bl (decide (i = 8)), .bl (decide (i = 9)), .bl (decide (i = 10)), .bl (decide (i = 11))] ++ [.bl (decide (i = 12)), .bl (decide (i = 13)), .bl (decide (i = 14))])) hq3
    have e7 := upd_same (H := H6) (a := q3) (o := .lst ([.bl (decide (i = 0)), .bl (decide (i = 1)), .bl (decide (i = 2)), .bl (decide (i = 3)), .bl (decide (i = 4)), .bl (decide (i = 5)), .bl (decide (i = 6)), .bl (decide (i = 7)), .bl (decide (i = 8)), .bl (decide (i = 9)), .bl (decide (i = 10)), .bl (decide (i = 11))] ++ [.bl (decide (i = 12)), .bl (decide (i = 13)), .bl (decide (i = 14))]))
    generalize upd H6 q3 (.lst ([.bl (decide (i = 0)), .bl (decide (i = 1)), .bl (decide (i = 2)), .bl (decide (i = 3)), .bl (decide (i = 4)), .bl (decide (i = 5)), .bl (decide (i = 6)), .bl (decide (i = 7)), .bl (decide (i = 8)), .bl (decide (i = 9)), .bl (decide (i = 10)), .bl (decide (i = 11))] ++ [.bl (decide (i = 12)), .bl (decide (i = 13)), .bl (decide (i = 14))])) = H7 at s7 e7 ⊢
    have e7 : H7 q3 = some (.lst [.bl (decide (i = 0)), .bl (decide (i = 1)), .bl (decide (i = 2)), .bl (decide (i = 3)), .bl (decide (i = 4)), .bl (decide (i = 5)), .bl (decide (i = 6)), .bl (decide (i = 7)), .bl (decide (i = 8)), .bl (decide (i = 9)), .bl (decide (i = 10)), .bl (decide (i = 11)), .bl (decide (i = 12)), .bl (decide (i = 13)), .bl (decide (i = 14))]) := e7
    have c7 := c6.trans s7
    have ha7 := ha.same c7
    refine ⟨_, rfl, .inl ⟨rfl, _, SqL.of e7⟩, ?_⟩
    refine ⟨_, rfl, p, A i, _, _, _, rfl, E.ec i hi, ha7, fun _ u => u, E.kit i 15 hi (by decide), ?_⟩
    refine ⟨q3, _, _, rfl, rfl, e7, by show 15 < sizeLine; decide, ?_⟩
    have c8 := Same.updN (o := .lst ([.bl (decide (i = 0)), .bl (decide (i = 1)), .bl (decide (i = 2)), .bl (decide (i = 3)), .bl (decide (i = 4)), .bl (decide (i = 5)), .bl (decide (i = 6)), .bl (decide (i = 7)), .bl (decide (i = 8)), .bl (decide (i = 9)), .bl (decide (i = 10)), .bl (decide (i = 11)), .bl (decide (i = 12)), .bl (decide (i = 13)), .bl (decide (i = 14))] ++ [.bl (decide (i = 15))])) c7 (Same.noneN c6 hq3)
    have e8 := upd_same (H := H7) (a := q3) (o := .lst ([.bl (decide (i = 0)), .bl (decide (i = 1)), .bl (decide (i = 2)), .bl (decide (i = 3)), .bl (decide (i = 4)), .bl (decide (i = 5)), .bl (decide (i = 6)), .bl (decide (i = 7)), .bl (decide (i = 8)), .bl (decide (i = 9)), .bl (decide (i = 10)), .bl (decide (i = 11)), .bl (decide (i = 12)), .bl (decide (i = 13)), .bl (decide (i = 14))] ++ [.bl (decide (i = 15))]))
    generalize upd H7 q3 (.lst ([.bl (decide (i = 0)), .bl (decide (i = 1)), .bl (decide (i = 2)), .bl (decide (i = 3)), .bl (decide (i = 4)), .bl (decide (i = 5)), .bl (decide (i = 6)), .bl (decide (i = 7)), .bl (decide (i = 8)), .bl (decide (i = 9)), .bl (decide (i = 10)), .bl (decide (i = 11)), .bl (decide (i = 12)), .bl (decide (i = 13)), .bl (decide (i = 14))] ++ [.bl (decide (i = 15))])) = H8 at c8 e8 ⊢
    have e8 : H8 q3 = some (.lst [.bl (decide (i = 0)), .bl (decide (i = 1)), .bl (decide (i = 2)), .bl (decide (i = 3)), .bl (decide (i = 4)), .bl (decide (i = 5)), .bl (decide (i = 6)), .bl (decide (i = 7)), .bl (decide (i = 8)), .bl (decide (i = 9)), .bl (decide (i = 10)), .bl (decide (i = 11)), .bl (decide (i = 12)), .bl (decide (i = 13)), .bl (decide (i = 14)), .bl (decide (i = 15))]) := e8
    have ha8 := ha.same c8
    refine ⟨_, rfl, ?_⟩
    refine ⟨_, rfl, p, A i, _, _, _, rfl, E.ec i hi, ha8, fun _ u => u, E.kit i 16 hi (by decide), ?_⟩
    refine ⟨_, rfl, p, A i, _, _, _, rfl, E.ec i hi, ha8, fun _ u => u, E.kit i 17 hi (by decide), ?_⟩
    refine ⟨_, rfl, p, A i, _, _, _, rfl, E.ec i hi, ha8, fun _ u => u, E.kit i 18 hi (by decide), ?_⟩
    refine ⟨_, rfl, p, A i, _, _, _, rfl, E.ec i hi, ha8, fun _ u => u, E.kit i 19 hi (by decide), ?_⟩
    refine ⟨by show 4 ≤ sizeLine; decide, fun d5 hd5 => ?_⟩
    have s9 := Same.new (o := .lst [.bl (decide (i = 16)), .bl (decide (i = 17)), .bl (decide (i = 18)), .bl (decide (i = 19))]) hd5
    have e9 := upd_same (H := H8) (a := d5) (o := .lst [.bl (decide (i = 16)), .bl (decide (i = 17)), .bl (decide (i = 18)), .bl (decide (i = 19))])
    generalize upd H8 d5 (.lst [.bl (decide (i = 16)), .bl (decide (i = 17)), .bl (decide (i = 18)), .bl (decide (i = 19))]) = H9 at s9 e9 ⊢
    have c9 := c8.trans s9
    have ha9 := ha.same c9
    refine ⟨q3, d5, _, _, rfl, rfl, s9 _ _ e8, e9, by show 20 ≤ sizeLine; decide, fun q5 hq5 => ?_⟩
    have s10 := Same.new (o := .lst ([.bl (decide (i = 0)), .bl (decide (i = 1)), .bl (decide (i = 2)), .bl (decide (i = 3)), .bl (decide (i = 4)), .bl (decide (i = 5)), .bl (decide (i = 6)), .bl (decide (i = 7)), .bl (decide (i = 8)), .bl (decide (i = 9)), .bl (decide (i = 10)), .bl (decide (i = 11)), .bl (decide (i = 12)), .bl (decide (i = 13)), .bl (decide (i = 14)), .bl (decide (i = 15))] ++ [.bl (decide (i = 16)), .bl (decide (i = 17)), .bl (decide (i = 18)), .bl (decide (i = 19))])) hq5
    have e10 := upd_same (H := H9) (a := q5) (o := .lst ([.bl (decide (i = 0)), .bl (decide (i = 1)), .bl (decide (i = 2)), .bl (decide (i = 3)), .bl (decide (i = 4)), .bl (decide (i = 5)), .bl (decide (i = 6)), .bl (decide (i = 7)), .bl (decide (i = 8)), .bl (decide (i = 9)), .bl (decide (i = 10)), .bl (decide (i = 11)), .bl (decide (i = 12)), .bl (decide (i = 13)), .bl (decide (i = 14)), .bl (decide (i = 15))] ++ [.bl (decide (i = 16)), .bl (decide (i = 17)), .bl (decide (i = 18)), .bl (decide (i = 19))]))
    generalize upd H9 q5 (.lst ([.bl (decide (i = 0)), .bl (decide (i = 1)), .bl (decide (i = 2)), .bl (decide (i = 3)), .bl (decide (i = 4)), .bl (decide (i = 5)), .bl (decide (i = 6)), .bl (decide (i = 7)), .bl (decide (i = 8)), .bl (decide (i = 9)), .bl (decide (i = 10)), .bl (decide (i = 11)), .bl (decide (i = 12)), .bl (decide (i = 13)), .bl (decide (i = 14)), .bl (decide (i = 15))] ++ [.bl (decide (i = 16)), .bl (decide (i = 17)), .bl (decide (i = 18)), .bl (decide (i = 19))])) = H10 at s10 e10 ⊢
    have e10 : H10 q5 = some (.lst [.bl (decide (i = 0)), .bl (decide (i = 1)), .bl (decide (i = 2)), .bl (decide (i = 3)), .bl (decide (i = 4)), .bl (decide (i = 5)), .bl (decide (i = 6)), .bl (decide (i = 7)), .bl (decide (i = 8)), .bl (decide (i = 9)), .bl (decide (i = 10)), .bl (decide (i = 11)), .bl (decide (i = 12)), .bl (decide (i = 13)), .bl (decide (i = 14)), .bl (decide (i = 15)), .bl (decide (i = 16)), .bl (decide (i = 17)), .bl (decide (i = 18)), .bl (decide (i = 19))]) := e10
    have c10 := c9.trans s10
    have ha10 := ha.same c10
    exact k _ _ c10 e10
theorem ok_second {f ce : Addr} {fd : FuncData} {A : Nat → Addr} (F : Fun K "_law_second" "_law_second" s_l_second f fd) (g : Bi mg) (E : E30 K mg A ce) : FnOk P w K mg base CX0 1 f fd ["_law_e"] (spIsE A (fun i j => decide (i = j + 20)) 10) := by
  have mNoDoor : mg "NoDoor" = some (.ref (A 20)) := E.m 20 (by decide)
  have mNoBegin : mg "NoBegin" = some (.ref (A 21)) := E.m 21 (by decide)
  have mNoOwner : mg "NoOwner" = some (.ref (A 22)) := E.m 22 (by decide)
  have mNoRow : mg "NoRow" = some (.ref (A 23)) := E.m 23 (by decide)
  have mNoRule : mg "NoRule" = some (.ref (A 24)) := E.m 24 (by decide)
  have mNoDivisor : mg "NoDivisor" = some (.ref (A 25)) := E.m 25 (by decide)
  have mWaits : mg "Waits" = some (.ref (A 26)) := E.m 26 (by decide)
  have mRefused : mg "Refused" = some (.ref (A 27)) := E.m 27 (by decide)
  have mOver : mg "Over" = some (.ref (A 28)) := E.m 28 (by decide)
  have mBusy : mg "Busy" = some (.ref (A 29)) := E.m 29 (by decide)
  refine F.ok sc_l_second (fun vs H Q E h => ?_) (fun cdv A' outer s H vs Q E' hr h => ?_)
  · obtain ⟨_, _, rfl, _⟩ := h
    rfl
  · obtain ⟨p, i, rfl, hi, ha, k⟩ := h
    refine ⟨_, (pss_cons (ps_set (i := 1) sc_l_second.nd rfl (Or.inl rfl) (pe_lst (pa_cons (pe_callB call_isV (by rfl) g.isinstance (by decide +kernel) (pa_cons (pv 0) (pa_cons (pe_glob (v := .ref (A 20)) rfl mNoDoor rfl) pa_nil))) (pa_cons (pe_callB call_isV (by rfl) g.isinstance (by decide +kernel) (pa_cons (pv 0) (pa_cons (pe_glob (v := .ref (A 21)) rfl mNoBegin rfl) pa_nil))) (pa_cons (pe_callB call_isV (by rfl) g.isinstance (by decide +kernel) (pa_cons (pv 0) (pa_cons (pe_glob (v := .ref (A 22)) rfl mNoOwner rfl) pa_nil))) (pa_cons (pe_callB call_isV (by rfl) g.isinstance (by decide +kernel) (pa_cons (pv 0) (pa_cons (pe_glob (v := .ref (A 23)) rfl mNoRow rfl) pa_nil))) pa_nil))))))
      (pss_cons (ps_set (i := 1) sc_l_second.nd rfl (Or.inl rfl) (pe_op op_cat (pv 1) (pe_lst (pa_cons (pe_callB call_isV (by rfl) g.isinstance (by decide +kernel) (pa_cons (pv 0) (pa_cons (pe_glob (v := .ref (A 24)) rfl mNoRule rfl) pa_nil))) (pa_cons (pe_callB call_isV (by rfl) g.isinstance (by decide +kernel) (pa_cons (pv 0) (pa_cons (pe_glob (v := .ref (A 25)) rfl mNoDivisor rfl) pa_nil))) (pa_cons (pe_callB call_isV (by rfl) g.isinstance (by decide +kernel) (pa_cons (pv 0) (pa_cons (pe_glob (v := .ref (A 26)) rfl mWaits rfl) pa_nil))) (pa_cons (pe_callB call_isV (by rfl) g.isinstance (by decide +kernel) (pa_cons (pv 0) (pa_cons (pe_glob (v := .ref (A 27)) rfl mRefused rfl) pa_nil))) pa_nil)))))))
      (pss_one (ps_ret (pe_op op_cat (pv 1) (pe_lst (pa_cons (pe_callB call_isV (by rfl) g.isinstance (by decide +kernel) (pa_cons (pv 0) (pa_cons (pe_glob (v := .ref (A 28)) rfl mOver rfl) pa_nil))) (pa_cons (pe_callB call_isV (by rfl) g.isinstance (by decide +kernel) (pa_cons (pv 0) (pa_cons (pe_glob (v := .ref (A 29)) rfl mBusy rfl) pa_nil))) pa_nil)))))))), ?_⟩
    have ha0 := ha
    have c0 : Same H H := Same.refl H
    refine ⟨_, rfl, p, A i, _, _, _, rfl, E.ec i hi, ha0, fun _ u => u, E.kit i 20 hi (by decide), ?_⟩
    refine ⟨_, rfl, p, A i, _, _, _, rfl, E.ec i hi, ha0, fun _ u => u, E.kit i 21 hi (by decide), ?_⟩
    refine ⟨_, rfl, p, A i, _, _, _, rfl, E.ec i hi, ha0, fun _ u => u, E.kit i 22 hi (by decide), ?_⟩
    refine ⟨_, rfl, p, A i, _, _, _, rfl, E.ec i hi, ha0, fun _ u => u, E.kit i 23 hi (by decide), ?_⟩
    refine ⟨by show 4 ≤ sizeLine; decide, fun d0 hd0 => ?_⟩
    have s1 := Same.new (o := .lst [.bl (decide (i = 20)), .bl (decide (i = 21)), .bl (decide (i = 22)), .bl (decide (i = 23))]) hd0
    have e1 := upd_same (H := H) (a := d0) (o := .lst [.bl (decide (i = 20)), .bl (decide (i = 21)), .bl (decide (i = 22)), .bl (decide (i = 23))])
    generalize upd H d0 (.lst [.bl (decide (i = 20)), .bl (decide (i = 21)), .bl (decide (i = 22)), .bl (decide (i = 23))]) = H1 at s1 e1 ⊢
    have c1 := c0.trans s1
    have ha1 := ha.same c1
    refine ⟨_, rfl, ?_⟩
    refine ⟨_, rfl, p, A i, _, _, _, rfl, E.ec i hi, ha1, fun _ u => u, E.kit i 24 hi (by decide), ?_⟩
    refine ⟨_, rfl, p, A i, _, _, _, rfl, E.ec i hi, ha1, fun _ u => u, E.kit i 25 hi (by decide), ?_⟩
    refine ⟨_, rfl, p, A i, _, _, _, rfl, E.ec i hi, ha1, fun _ u => u, E.kit i 26 hi (by decide), ?_⟩
    refine ⟨_, rfl, p, A i, _, _, _, rfl, E.ec i hi, ha1, fun _ u => u, E.kit i 27 hi (by decide), ?_⟩
    refine ⟨by show 4 ≤ sizeLine; decide, fun d1 hd1 => ?_⟩
    have s2 := Same.new (o := .lst [.bl (decide (i = 24)), .bl (decide (i = 25)), .bl (decide (i = 26)), .bl (decide (i = 27))]) hd1
    have e2 := upd_same (H := H1) (a := d1) (o := .lst [.bl (decide (i = 24)), .bl (decide (i = 25)), .bl (decide (i = 26)), .bl (decide (i = 27))])
    generalize upd H1 d1 (.lst [.bl (decide (i = 24)), .bl (decide (i = 25)), .bl (decide (i = 26)), .bl (decide (i = 27))]) = H2 at s2 e2 ⊢
    have c2 := c1.trans s2
    have ha2 := ha.same c2
    refine ⟨d0, d1, _, _, rfl, rfl, s2 _ _ e1, e2, by show 8 ≤ sizeLine; decide, fun q1 hq1 => ?_⟩
    have s3 := Same.new (o := .lst ([.bl (decide (i = 20)), .bl (decide (i = 21)), .bl (decide (i = 22)), .bl (decide (i = 23))] ++ [.bl (decide (i = 24)), .bl (decide (i = 25)), .bl (decide (i = 26)), .bl (decide (i = 27))])) hq1
    have e3 := upd_same (H := H2) (a := q1) (o := .lst ([.bl (decide (i = 20)), .bl (decide (i = 21)), .bl (decide (i = 22)), .bl (decide (i = 23))] ++ [.bl (decide (i = 24)), .bl (decide (i = 25)), .bl (decide (i = 26)), .bl (decide (i = 27))]))
    generalize upd H2 q1 (.lst ([.bl (decide (i = 20)), .bl (decide (i = 21)), .bl (decide (i = 22)), .bl (decide (i = 23))] ++ [.bl (decide (i = 24)), .bl (decide (i = 25)), .bl (decide (i = 26)), .bl (decide (i = 27))])) = H3 at s3 e3 ⊢
    have e3 : H3 q1 = some (.lst [.bl (decide (i = 20)), .bl (decide (i = 21)), .bl (decide (i = 22)), .bl (decide (i = 23)), .bl (decide (i = 24)), .bl (decide (i = 25)), .bl (decide (i = 26)), .bl (decide (i = 27))]) := e3
    have c3 := c2.trans s3
    have ha3 := ha.same c3
    refine ⟨_, rfl, ?_⟩
    refine ⟨_, rfl, p, A i, _, _, _, rfl, E.ec i hi, ha3, fun _ u => u, E.kit i 28 hi (by decide), ?_⟩
    refine ⟨_, rfl, p, A i, _, _, _, rfl, E.ec i hi, ha3, fun _ u => u, E.kit i 29 hi (by decide), ?_⟩
    refine ⟨by show 2 ≤ sizeLine; decide, fun d2 hd2 => ?_⟩
    have s4 := Same.new (o := .lst [.bl (decide (i = 28)), .bl (decide (i = 29))]) hd2
    have e4 := upd_same (H := H3) (a := d2) (o := .lst [.bl (decide (i = 28)), .bl (decide (i = 29))])
    generalize upd H3 d2 (.lst [.bl (decide (i = 28)), .bl (decide (i = 29))]) = H4 at s4 e4 ⊢
    have c4 := c3.trans s4
    have ha4 := ha.same c4
    refine ⟨q1, d2, _, _, rfl, rfl, s4 _ _ e3, e4, by show 10 ≤ sizeLine; decide, fun q2 hq2 => ?_⟩
    have s5 := Same.new (o := .lst ([.bl (decide (i = 20)), .bl (decide (i = 21)), .bl (decide (i = 22)), .bl (decide (i = 23)), .bl (decide (i = 24)), .bl (decide (i = 25)), .bl (decide (i = 26)), .bl (decide (i = 27))] ++ [.bl (decide (i = 28)), .bl (decide (i = 29))])) hq2
    have e5 := upd_same (H := H4) (a := q2) (o := .lst ([.bl (decide (i = 20)), .bl (decide (i = 21)), .bl (decide (i = 22)), .bl (decide (i = 23)), .bl (decide (i = 24)), .bl (decide (i = 25)), .bl (decide (i = 26)), .bl (decide (i = 27))] ++ [.bl (decide (i = 28)), .bl (decide (i = 29))]))
    generalize upd H4 q2 (.lst ([.bl (decide (i = 20)), .bl (decide (i = 21)), .bl (decide (i = 22)), .bl (decide (i = 23)), .bl (decide (i = 24)), .bl (decide (i = 25)), .bl (decide (i = 26)), .bl (decide (i = 27))] ++ [.bl (decide (i = 28)), .bl (decide (i = 29))])) = H5 at s5 e5 ⊢
    have e5 : H5 q2 = some (.lst [.bl (decide (i = 20)), .bl (decide (i = 21)), .bl (decide (i = 22)), .bl (decide (i = 23)), .bl (decide (i = 24)), .bl (decide (i = 25)), .bl (decide (i = 26)), .bl (decide (i = 27)), .bl (decide (i = 28)), .bl (decide (i = 29))]) := e5
    have c5 := c4.trans s5
    have ha5 := ha.same c5
    exact k _ _ c5 e5
theorem ok_bases {f ce : Addr} {fd : FuncData} {A : Nat → Addr} (F : Fun K "_law_bases" "_law_bases" s_l_bases f fd) (g : Bi mg) (E : E30 K mg A ce) (zV : mg "ValueError" = none) (zL : mg "LookupError" = none) (zZ : mg "ZeroDivisionError" = none) (zR : mg "RuntimeError" = none) : FnOk P w K mg base CX0 1 f fd ["_law_e"] (spIsE A baseF 5) := by
  have mCountsheldError := E.mc
  refine F.ok sc_l_bases (fun vs H Q E h => ?_) (fun cdv A' outer s H vs Q E' hr h => ?_)
  · obtain ⟨_, _, rfl, _⟩ := h
    rfl
  · obtain ⟨p, i, rfl, hi, ha, k⟩ := h
    refine ⟨_, (pss_cons (ps_set (i := 1) sc_l_bases.nd rfl (Or.inl rfl) (pe_lst (pa_cons (pe_callB call_isV (by rfl) g.isinstance (by decide +kernel) (pa_cons (pv 0) (pa_cons (pe_glob (v := .ref ce) rfl mCountsheldError rfl) pa_nil))) (pa_cons (pe_callB call_isV (by rfl) g.isinstance (by decide +kernel) (pa_cons (pv 0) (pa_cons (pe_bltn (v := .ty "ValueError") (by rfl) zV (by decide +kernel) rfl) pa_nil))) (pa_cons (pe_callB call_isV (by rfl) g.isinstance (by decide +kernel) (pa_cons (pv 0) (pa_cons (pe_bltn (v := .ty "LookupError") (by rfl) zL (by decide +kernel) rfl) pa_nil))) pa_nil)))))
      (pss_one (ps_ret (pe_op op_cat (pv 1) (pe_lst (pa_cons (pe_callB call_isV (by rfl) g.isinstance (by decide +kernel) (pa_cons (pv 0) (pa_cons (pe_bltn (v := .ty "ZeroDivisionError") (by rfl) zZ (by decide +kernel) rfl) pa_nil))) (pa_cons (pe_callB call_isV (by rfl) g.isinstance (by decide +kernel) (pa_cons (pv 0) (pa_cons (pe_bltn (v := .ty "RuntimeError") (by rfl) zR (by decide +kernel) rfl) pa_nil))) pa_nil))))))), ?_⟩
    have ha0 := ha
    have c0 : Same H H := Same.refl H
    refine ⟨_, rfl, p, A i, _, _, _, rfl, E.ec i hi, ha0, fun _ u => u, E.k0 i hi, ?_⟩
    refine ⟨_, rfl, p, A i, _, _, _, rfl, E.ec i hi, ha0, fun _ u => u, E.k1 i hi, ?_⟩
    refine ⟨_, rfl, p, A i, _, _, _, rfl, E.ec i hi, ha0, fun _ u => u, E.k2 i hi, ?_⟩
    refine ⟨by show 3 ≤ sizeLine; decide, fun d0 hd0 => ?_⟩
    have s1 := Same.new (o := .lst [.bl (decide (i < 20)), .bl (decide (i < 20)), .bl (decide (20 ≤ i ∧ i < 25))]) hd0
    have e1 := upd_same (H := H) (a := d0) (o := .lst [.bl (decide (i < 20)), .bl (decide (i < 20)), .bl (decide (20 ≤ i ∧ i < 25))])
    generalize upd H d0 (.lst [.bl (decide (i < 20)), .bl (decide (i < 20)), .bl (decide (20 ≤ i ∧ i < 25))]) = H1 at s1 e1 ⊢
    have c1 := c0.trans s1
    have ha1 := ha.same c1
    refine ⟨_, rfl, ?_⟩
    refine ⟨_, rfl, p, A i, _, _, _, rfl, E.ec i hi, ha1, fun _ u => u, E.k3 i hi, ?_⟩
    refine ⟨_, rfl, p, A i, _, _, _, rfl, E.ec i hi, ha1, fun _ u => u, E.k4 i hi, ?_⟩
    refine ⟨by show 2 ≤ sizeLine; decide, fun d1 hd1 => ?_⟩
    have s2 := Same.new (o := .lst [.bl (decide (i = 25)), .bl (decide (25 < i))]) hd1
    have e2 := upd_same (H := H1) (a := d1) (o := .lst [.bl (decide (i = 25)), .bl (decide (25 < i))])
    generalize upd H1 d1 (.lst [.bl (decide (i = 25)), .bl (decide (25 < i))]) = H2 at s2 e2 ⊢
    have c2 := c1.trans s2
    have ha2 := ha.same c2
    refine ⟨d0, d1, _, _, rfl, rfl, s2 _ _ e1, e2, by show 5 ≤ sizeLine; decide, fun q1 hq1 => ?_⟩
    have s3 := Same.new (o := .lst ([.bl (decide (i < 20)), .bl (decide (i < 20)), .bl (decide (20 ≤ i ∧ i < 25))] ++ [.bl (decide (i = 25)), .bl (decide (25 < i))])) hq1
    have e3 := upd_same (H := H2) (a := q1) (o := .lst ([.bl (decide (i < 20)), .bl (decide (i < 20)), .bl (decide (20 ≤ i ∧ i < 25))] ++ [.bl (decide (i = 25)), .bl (decide (25 < i))]))
    generalize upd H2 q1 (.lst ([.bl (decide (i < 20)), .bl (decide (i < 20)), .bl (decide (20 ≤ i ∧ i < 25))] ++ [.bl (decide (i = 25)), .bl (decide (25 < i))])) = H3 at s3 e3 ⊢
    have e3 : H3 q1 = some (.lst [.bl (decide (i < 20)), .bl (decide (i < 20)), .bl (decide (20 ≤ i ∧ i < 25)), .bl (decide (i = 25)), .bl (decide (25 < i))]) := e3
    have c3 := c2.trans s3
    have ha3 := ha.same c3
    exact k _ _ c3 e3
def spRow : Sp := fun vs H Q _ => ∃ (at_ n : Nat), vs = [.int at_, .int n] ∧ n ≤ 30 ∧ ∀ q H', Same H H' → H' q = some (.lst (blL (fun j => decide (j = at_)) n)) → Q (.ref q) H'
theorem blL_succ (f : Nat → Bool) (n : Nat) : blL f (n + 1) = blL f n ++ [.bl (f n)] := by
  unfold blL
  rw [List.range_succ, List.map_append]
  rfl
theorem blL_len (f : Nat → Bool) (n : Nat) : (blL f n).length = n := by
  unfold blL
  simp
theorem ok_row {f : Addr} {fd : FuncData} (F : Fun K "_law_row" "_law_row" s_l_row f fd) (g : Bi mg) : FnOk P w K mg base CX0 1 f fd ["_law_at", "_law_many"] spRow := by
  refine F.ok sc_l_row (fun vs H Q E h => ?_) (fun cdv A outer s H vs Q E hr h => ?_)
  · obtain ⟨_, _, rfl, _⟩ := h
    rfl
  · obtain ⟨i, n, rfl, hn, k⟩ := h
    refine ⟨_, (pss_one (ps_ret (pe_lc (own := [("_law_k", 2)]) (g := gName 2)  (by rfl) sc_l_row.nd (pi_range1 rfl g.range (pa_cons (pv 1) pa_nil)) (blkOk_by (own := [("_law_k", 2)]) (N := ["_law_at", "_law_many", "_law_k"]) (sc := defScope s_l_row) (by decide +kernel)) (fun _ _ _ _ _ => (pg_name (i := 2) sc_l_row.nd rfl (Or.inl rfl))) (fun _ _ _ _ _ => pts_nil) (fun _ _ _ _ _ => (pe_cmpR op_eq (pv 2) (pv 0) (nomark _)))))), ?_⟩
    refine ⟨_, rfl, n, rfl, by omega, by omega, fun D hD => ?_⟩
    refine lc_it walk_range (fun j H' => Same H H' ∧ H' D = some (.lst (blL (fun j => decide (j = i)) j))) ⟨Same.new hD, upd_same⟩ (fun _ _ _ _ => trivial) ?_ ?_
    · rintro j x H1 H2 hj ⟨s1, hd⟩ ⟨rfl, rfl⟩
      refine ⟨rfl, yes_it ?_⟩
      have ee : decide (V.int ((0 : Int) + (j : Int)) = V.int (i : Int)) = decide (j = i) := decide_eq_decide.mpr ⟨fun z => by have := V.int.inj z; omega, fun z => by subst z; congr 1; omega⟩
      refine ⟨_, rfl, _, rfl, rfl, _, hd, by rw [blL_len]; exact Nat.lt_of_lt_of_le (show j < 30 by omega) (by decide), Same.updN s1 hD, ?_⟩
      rw [upd_same, blL_succ, ← ee]
    · rintro H1 ⟨s1, hd⟩
      exact k _ _ s1 hd

end
end Cs

set_option Elab.async false
set_option linter.all false
set_option maxRecDepth 100000
set_option maxHeartbeats 16000000
set_option pp.maxSteps 400

/-! The values that the errors bear. -/
namespace Cs
open PySem L2
section
variable {P : Program} {w : World} {K : PySem.W.Frag} {mg : Str → Option Value} {base : Heap}
theorem eqv_refl' {d : PyData} (h : SeqAt.shaped d = true) : PyData.eqv d d = true := SeqAt.eqv_refl d (SeqAt.canLay_of_shaped h)
theorem Vl.shaped5 {H : Hp} {v1 v2 v3 : V} {d1 d2 d3 : PyData} {b1 b2 b3 : Bool} (h1 : Vl H v1 d1 b1) (h2 : Vl H v2 d2 b2) (h3 : Vl H v3 d3 b3) : SeqAt.shaped (.list [d1, d2, d1, d2, d3]) = true := by
  have a1 := h1.can
  have a2 := h2.can
  have a3 := h3.can
  unfold SeqAt.shaped
  rw [Bool.and_eq_true]
  refine ⟨?_, decide_eq_true ?_⟩
  · simp [PyData.canLay0, PyData.canLayAll0, a1.1, a2.1, a3.1]
  · simp only [PyData.depth, PyData.depthAll]
    omega
def spVals (b : Unit) : Sp := fun vs H Q _ => ∃ (y1 y2 y3 : V) (d1 d2 d3 : PyData) (b1 b2 b3 : Bool), vs = [y1, y2, y3] ∧ Vl H y1 d1 b1 ∧ Vl H y2 d2 b2 ∧ Vl H y3 d3 b3 ∧ ∀ H', Q (.bl true) H'
theorem ok_vals {f ce : Addr} {fd : FuncData} {A : Nat → Addr} (F : Fun K "_law_values" "_law_values" s_l_values f fd) (g : Bi mg) (E : E30 K mg A ce) {fBadWord : Addr} {fdBadWord : FuncData} {fBadNumber : Addr} {fdBadNumber : FuncData} {fBadCounts : Addr} {fdBadCounts : FuncData} {fBadRule : Addr} {fdBadRule : FuncData} {fBadRules : Addr} {fdBadRules : FuncData} {fBadDoor : Addr} {fdBadDoor : FuncData} {fUnfit : Addr} {fdUnfit : FuncData} {fBadDesk : Addr} {fdBadDesk : FuncData} {fBadText : Addr} {fdBadText : FuncData} {fNotLoose : Addr} {fdNotLoose : FuncData} {fNamed : Addr} {fdNamed : FuncData} {fFull : Addr} {fdFull : FuncData} {fNoPick : Addr} {fdNoPick : FuncData} {fBroken : Addr} {fdBroken : FuncData} {fBadHistory : Addr} {fdBadHistory : FuncData} {fBadStanding : Addr} {fdBadStanding : FuncData} {fBadWay : Addr} {fdBadWay : FuncData} {fNoWay : Addr} {fdNoWay : FuncData} {fTooMany : Addr} {fdTooMany : FuncData} {fNoDoor : Addr} {fdNoDoor : FuncData} {fNoBegin : Addr} {fdNoBegin : FuncData} {fNoOwner : Addr} {fdNoOwner : FuncData} {fNoRow : Addr} {fdNoRow : FuncData} {fNoRule : Addr} {fdNoRule : FuncData} {fNoDivisor : Addr} {fdNoDivisor : FuncData} {fWaits : Addr} {fdWaits : FuncData} {fRefused : Addr} {fdRefused : FuncData} {fOver : Addr} {fdOver : FuncData} {fBusy : Addr} {fdBusy : FuncData} (XBadWord : EDf P w K mg base "BadWord" (A 0) fBadWord ["word"] fdBadWord) (XBadNumber : EDf P w K mg base "BadNumber" (A 1) fBadNumber ["number"] fdBadNumber) (XBadCounts : EDf P w K mg base "BadCounts" (A 2) fBadCounts ["at"] fdBadCounts) (XBadRule : EDf P w K mg base "BadRule" (A 3) fBadRule ["what"] fdBadRule) (XBadRules : EDf P w K mg base "BadRules" (A 4) fBadRules ["what"] fdBadRules) (XBadDoor : EDf P w K mg base "BadDoor" (A 5) fBadDoor ["at"] fdBadDoor) (XUnfit : EDf P w K mg base "Unfit" (A 6) fUnfit ["door", "line"] fdUnfit) (XBadDesk : EDf P w K mg base "BadDesk" (A 7) fBadDesk ["what"] fdBadDesk) (XBadText : EDf P w K mg base "BadText" (A 8) fBadText ["at"] fdBadText) (XNotLoose : EDf P w K mg base "NotLoose" (A 9) fNotLoose ["kind"] fdNotLoose) (XNamed : EDf P w K mg base "Named" (A 10) fNamed ["row"] fdNamed) (XFull : EDf P w K mg base "Full" (A 11) fFull ["owner"] fdFull) (XNoPick : EDf P w K mg base "NoPick" (A 12) fNoPick ["pick"] fdNoPick) (XBroken : EDf P w K mg base "Broken" (A 13) fBroken ["rules"] fdBroken) (XBadHistory : EDf P w K mg base "BadHistory" (A 14) fBadHistory ["at"] fdBadHistory) (XBadStanding : EDf P w K mg base "BadStanding" (A 15) fBadStanding ["standing"] fdBadStanding) (XBadWay : EDf P w K mg base "BadWay" (A 16) fBadWay ["at"] fdBadWay) (XNoWay : EDf P w K mg base "NoWay" (A 17) fNoWay ["standing"] fdNoWay) (XTooMany : EDf P w K mg base "TooMany" (A 19) fTooMany ["what"] fdTooMany) (XNoDoor : EDf P w K mg base "NoDoor" (A 20) fNoDoor ["name"] fdNoDoor) (XNoBegin : EDf P w K mg base "NoBegin" (A 21) fNoBegin ["index"] fdNoBegin) (XNoOwner : EDf P w K mg base "NoOwner" (A 22) fNoOwner ["owner"] fdNoOwner) (XNoRow : EDf P w K mg base "NoRow" (A 23) fNoRow ["row"] fdNoRow) (XNoRule : EDf P w K mg base "NoRule" (A 24) fNoRule ["rule"] fdNoRule) (XNoDivisor : EDf P w K mg base "NoDivisor" (A 25) fNoDivisor ["word"] fdNoDivisor) (XWaits : EDf P w K mg base "Waits" (A 26) fWaits ["owner"] fdWaits) (XRefused : EDf P w K mg base "Refused" (A 27) fRefused ["door", "line", "why"] fdRefused) (XOver : EDf P w K mg base "Over" (A 28) fOver ["number"] fdOver) (XBusy : EDf P w K mg base "Busy" (A 29) fBusy ["owner"] fdBusy) : FnOk P w K mg base CX0 3 f fd ["_law_one", "_law_two", "_law_three"] (spVals ()) := by
  have xf : ∀ i, i < 30 → XfC K (A i) := fun i hi => ⟨(E.ec i hi).hg, (E.ec i hi).hk, (E.ec i hi).hs, (E.ec i hi).hd⟩
  refine F.ok sc_l_values (fun vs H Q E h => ?_) (fun cdv A' outer s H vs Q E' hr h => ?_)
  · obtain ⟨_, _, _, _, _, _, _, _, _, rfl, _⟩ := h
    rfl
  · obtain ⟨y1, y2, y3, d1, d2, d3, b1, b2, b3, rfl, h1, h2, h3, k⟩ := h
    have hrX : Room 2 _ := hr.mono (by decide)
    refine ⟨_, (pss_cons (ps_set (i := 3) sc_l_values.nd rfl (Or.inl rfl) (pe_lst (pa_cons (pe_getV (pe_mkV XBadWord.c XBadWord.iC XBadWord.tI XBadWord.ok hrX XBadWord.b .nil pass0 rfl XBadWord.mg_ (pa_cons (pv 0) pa_nil))) (pa_cons (pe_getV (pe_mkV XBadNumber.c XBadNumber.iC XBadNumber.tI XBadNumber.ok hrX XBadNumber.b .nil pass0 rfl XBadNumber.mg_ (pa_cons (pv 0) pa_nil))) (pa_cons (pe_getV (pe_mkV XBadCounts.c XBadCounts.iC XBadCounts.tI XBadCounts.ok hrX XBadCounts.b .nil pass0 rfl XBadCounts.mg_ (pa_cons (pv 0) pa_nil))) (pa_cons (pe_getV (pe_mkV XBadRule.c XBadRule.iC XBadRule.tI XBadRule.ok hrX XBadRule.b .nil pass0 rfl XBadRule.mg_ (pa_cons (pv 0) pa_nil))) (pa_cons (pe_getV (pe_mkV XBadRules.c XBadRules.iC XBadRules.tI XBadRules.ok hrX XBadRules.b .nil pass0 rfl XBadRules.mg_ (pa_cons (pv 0) pa_nil))) pa_nil)))))))
      (pss_cons (ps_set (i := 3) sc_l_values.nd rfl (Or.inl rfl) (pe_op op_cat (pv 3) (pe_lst (pa_cons (pe_getV (pe_mkV XBadDoor.c XBadDoor.iC XBadDoor.tI XBadDoor.ok hrX XBadDoor.b .nil pass0 rfl XBadDoor.mg_ (pa_cons (pv 0) pa_nil))) (pa_cons (pe_getV (pe_mkV XBadDesk.c XBadDesk.iC XBadDesk.tI XBadDesk.ok hrX XBadDesk.b .nil pass0 rfl XBadDesk.mg_ (pa_cons (pv 0) pa_nil))) (pa_cons (pe_getV (pe_mkV XBadText.c XBadText.iC XBadText.tI XBadText.ok hrX XBadText.b .nil pass0 rfl XBadText.mg_ (pa_cons (pv 0) pa_nil))) (pa_cons (pe_getV (pe_mkV XNotLoose.c XNotLoose.iC XNotLoose.tI XNotLoose.ok hrX XNotLoose.b .nil pass0 rfl XNotLoose.mg_ (pa_cons (pv 0) pa_nil))) (pa_cons (pe_getV (pe_mkV XNamed.c XNamed.iC XNamed.tI XNamed.ok hrX XNamed.b .nil pass0 rfl XNamed.mg_ (pa_cons (pv 0) pa_nil))) pa_nil))))))))
      (pss_cons (ps_set (i := 3) sc_l_values.nd rfl (Or.inl rfl) (pe_op op_cat (pv 3) (pe_lst (pa_cons (pe_getV (pe_mkV XFull.c XFull.iC XFull.tI XFull.ok hrX XFull.b .nil pass0 rfl XFull.mg_ (pa_cons (pv 0) pa_nil))) (pa_cons (pe_getV (pe_mkV XNoPick.c XNoPick.iC XNoPick.tI XNoPick.ok hrX XNoPick.b .nil pass0 rfl XNoPick.mg_ (pa_cons (pv 0) pa_nil))) (pa_cons (pe_getV (pe_mkV XBroken.c XBroken.iC XBroken.tI XBroken.ok hrX XBroken.b .nil pass0 rfl XBroken.mg_ (pa_cons (pv 0) pa_nil))) (pa_cons (pe_getV (pe_mkV XBadHistory.c XBadHistory.iC XBadHistory.tI XBadHistory.ok hrX XBadHistory.b .nil pass0 rfl XBadHistory.mg_ (pa_cons (pv 0) pa_nil))) pa_nil)))))))
      (pss_cons (ps_set (i := 3) sc_l_values.nd rfl (Or.inl rfl) (pe_op op_cat (pv 3) (pe_lst (pa_cons (pe_getV (pe_mkV XBadStanding.c XBadStanding.iC XBadStanding.tI XBadStanding.ok hrX XBadStanding.b .nil pass0 rfl XBadStanding.mg_ (pa_cons (pv 0) pa_nil))) (pa_cons (pe_getV (pe_mkV XBadWay.c XBadWay.iC XBadWay.tI XBadWay.ok hrX XBadWay.b .nil pass0 rfl XBadWay.mg_ (pa_cons (pv 0) pa_nil))) (pa_cons (pe_getV (pe_mkV XNoWay.c XNoWay.iC XNoWay.tI XNoWay.ok hrX XNoWay.b .nil pass0 rfl XNoWay.mg_ (pa_cons (pv 0) pa_nil))) (pa_cons (pe_getV (pe_mkV XTooMany.c XTooMany.iC XTooMany.tI XTooMany.ok hrX XTooMany.b .nil pass0 rfl XTooMany.mg_ (pa_cons (pv 0) pa_nil))) pa_nil)))))))
      (pss_cons (ps_set (i := 3) sc_l_values.nd rfl (Or.inl rfl) (pe_op op_cat (pv 3) (pe_lst (pa_cons (pe_getV (pe_mkV XNoDoor.c XNoDoor.iC XNoDoor.tI XNoDoor.ok hrX XNoDoor.b .nil pass0 rfl XNoDoor.mg_ (pa_cons (pv 0) pa_nil))) (pa_cons (pe_getV (pe_mkV XNoBegin.c XNoBegin.iC XNoBegin.tI XNoBegin.ok hrX XNoBegin.b .nil pass0 rfl XNoBegin.mg_ (pa_cons (pv 0) pa_nil))) (pa_cons (pe_getV (pe_mkV XNoOwner.c XNoOwner.iC XNoOwner.tI XNoOwner.ok hrX XNoOwner.b .nil pass0 rfl XNoOwner.mg_ (pa_cons (pv 0) pa_nil))) (pa_cons (pe_getV (pe_mkV XNoRow.c XNoRow.iC XNoRow.tI XNoRow.ok hrX XNoRow.b .nil pass0 rfl XNoRow.mg_ (pa_cons (pv 0) pa_nil))) (pa_cons (pe_getV (pe_mkV XNoRule.c XNoRule.iC XNoRule.tI XNoRule.ok hrX XNoRule.b .nil pass0 rfl XNoRule.mg_ (pa_cons (pv 0) pa_nil))) pa_nil))))))))
      (pss_cons (ps_set (i := 3) sc_l_values.nd rfl (Or.inl rfl) (pe_op op_cat (pv 3) (pe_lst (pa_cons (pe_getV (pe_mkV XNoDivisor.c XNoDivisor.iC XNoDivisor.tI XNoDivisor.ok hrX XNoDivisor.b .nil pass0 rfl XNoDivisor.mg_ (pa_cons (pv 0) pa_nil))) (pa_cons (pe_getV (pe_mkV XWaits.c XWaits.iC XWaits.tI XWaits.ok hrX XWaits.b .nil pass0 rfl XWaits.mg_ (pa_cons (pv 0) pa_nil))) (pa_cons (pe_getV (pe_mkV XOver.c XOver.iC XOver.tI XOver.ok hrX XOver.b .nil pass0 rfl XOver.mg_ (pa_cons (pv 0) pa_nil))) (pa_cons (pe_getV (pe_mkV XBusy.c XBusy.iC XBusy.tI XBusy.ok hrX XBusy.b .nil pass0 rfl XBusy.mg_ (pa_cons (pv 0) pa_nil))) pa_nil)))))))
      (pss_cons (ps_set (i := 4) sc_l_values.nd rfl (Or.inl rfl) (pe_mkV XUnfit.c XUnfit.iC XUnfit.tI XUnfit.ok hrX XUnfit.b .nil pass0 rfl XUnfit.mg_ (pa_cons (pv 0) (pa_cons (pv 1) pa_nil))))
      (pss_cons (ps_set (i := 5) sc_l_values.nd rfl (Or.inl rfl) (pe_mkV XRefused.c XRefused.iC XRefused.tI XRefused.ok hrX XRefused.b .nil pass0 rfl XRefused.mg_ (pa_cons (pv 0) (pa_cons (pv 1) (pa_cons (pv 2) pa_nil)))))
      (pss_cons (ps_if (pt_cmpR (op_neD hr.units) (pe_lst (pa_cons (pe_getV (pv 4)) (pa_cons (pe_getV (pv 4)) (pa_cons (pe_getV (pv 5)) (pa_cons (pe_getV (pv 5)) (pa_cons (pe_getV (pv 5)) pa_nil)))))) (pe_lst (pa_cons (pv 0) (pa_cons (pv 1) (pa_cons (pv 0) (pa_cons (pv 1) (pa_cons (pv 2) pa_nil)))))) (nomark _)) (pss_one (ps_ret pe_bl)) pss_nil)
      (pss_cons (ps_for PassesOwn.never rfl (pi_list (pv 3)) (pg_name (i := 6) sc_l_values.nd rfl (Or.inl rfl)) (pss_one (ps_if (PW.pt (pw_or (pt_cmpR (op_neD hr.units) (pv 6) (pv 0) (nomark _)) (pw_or1 (pt_cmpR (op_neD hr.units) (pe_callB call_isi (by rfl) g.isinstance (by decide +kernel) (pa_cons (pv 6) (pa_cons (pe_bltn (v := .ty "bool") (by rfl) g.bool (by decide +kernel) rfl) pa_nil))) (pe_callB call_isi (by rfl) g.isinstance (by decide +kernel) (pa_cons (pv 0) (pa_cons (pe_bltn (v := .ty "bool") (by rfl) g.bool (by decide +kernel) rfl) pa_nil))) (nomark _))))) (pss_one (ps_ret pe_bl)) pss_nil)))
      (pss_one (ps_ret (pe_cmpR op_eq (pe_callB call_len (by rfl) g.len PySem.boot_len (pa_cons (pv 3) pa_nil)) pe_int (nomark _)))))))))))))), ?_⟩
    have c0 : Same H H := Same.refl H
    refine ⟨_, rfl, mk_ev (fl := ["word"]) (ys := [y1]) rfl (by show 1 ≤ 900; decide) fun p1 H1 s1 n1 e1 => ⟨p1, A 0, _, y1, rfl, e1, xf 0 (by decide), XBadWord.nf _ (by simp), rfl, ?_⟩⟩
    have c1 := c0.trans s1
    refine ⟨_, rfl, mk_ev (fl := ["number"]) (ys := [y1]) rfl (by show 1 ≤ 900; decide) fun p2 H2 s2 n2 e2 => ⟨p2, A 1, _, y1, rfl, e2, xf 1 (by decide), XBadNumber.nf _ (by simp), rfl, ?_⟩⟩
    have c2 := c1.trans s2
    refine ⟨_, rfl, mk_ev (fl := ["at"]) (ys := [y1]) rfl (by show 1 ≤ 900; decide) fun p3 H3 s3 n3 e3 => ⟨p3, A 2, _, y1, rfl, e3, xf 2 (by decide), XBadCounts.nf _ (by simp), rfl, ?_⟩⟩
    have c3 := c2.trans s3
    refine ⟨_, rfl, mk_ev (fl := ["what"]) (ys := [y1]) rfl (by show 1 ≤ 900; decide) fun p4 H4 s4 n4 e4 => ⟨p4, A 3, _, y1, rfl, e4, xf 3 (by decide), XBadRule.nf _ (by simp), rfl, ?_⟩⟩
    have c4 := c3.trans s4
    refine ⟨_, rfl, mk_ev (fl := ["what"]) (ys := [y1]) rfl (by show 1 ≤ 900; decide) fun p5 H5 s5 n5 e5 => ⟨p5, A 4, _, y1, rfl, e5, xf 4 (by decide), XBadRules.nf _ (by simp), rfl, ?_⟩⟩
    have c5 := c4.trans s5
    refine ⟨by show 5 ≤ sizeLine; decide, fun d0_ hd0 => ?_⟩
    have s6 := Same.new (o := .lst [y1, y1, y1, y1, y1]) hd0
    have e6 := upd_same (H := H5) (a := d0_) (o := .lst [y1, y1, y1, y1, y1])
    generalize upd H5 d0_ (.lst [y1, y1, y1, y1, y1]) = H6 at s6 e6 ⊢
    have c6 := c5.trans s6
    refine ⟨_, rfl, ?_⟩
    refine ⟨_, rfl, mk_ev (fl := ["at"]) (ys := [y1]) rfl (by show 1 ≤ 900; decide) fun p7 H7 s7 n7 e7 => ⟨p7, A 5, _, y1, rfl, e7, xf 5 (by decide), XBadDoor.nf _ (by simp), rfl, ?_⟩⟩
    have c7 := c6.trans s7
    refine ⟨_, rfl, mk_ev (fl := ["what"]) (ys := [y1]) rfl (by show 1 ≤ 900; decide) fun p8 H8 s8 n8 e8 => ⟨p8, A 7, _, y1, rfl, e8, xf 7 (by decide), XBadDesk.nf _ (by simp), rfl, ?_⟩⟩
    have c8 := c7.trans s8
    refine ⟨_, rfl, mk_ev (fl := ["at"]) (ys := [y1]) rfl (by show 1 ≤ 900; decide) fun p9 H9 s9 n9 e9 => ⟨p9, A 8, _, y1, rfl, e9, xf 8 (by decide), XBadText.nf _ (by simp), rfl, ?_⟩⟩
    have c9 := c8.trans s9
    refine ⟨_, rfl, mk_ev (fl := ["kind"]) (ys := [y1]) rfl (by show 1 ≤ 900; decide) fun p10 H10 s10 n10 e10 => ⟨p10, A 9, _, y1, rfl, e10, xf 9 (by decide), XNotLoose.nf _ (by simp), rfl, ?_⟩⟩
    have c10 := c9.trans s10
    refine ⟨_, rfl, mk_ev (fl := ["row"]) (ys := [y1]) rfl (by show 1 ≤ 900; decide) fun p11 H11 s11 n11 e11 => ⟨p11, A 10, _, y1, rfl, e11, xf 10 (by decide), XNamed.nf _ (by simp), rfl, ?_⟩⟩
    have c11 := c10.trans s11
    refine ⟨by show 5 ≤ sizeLine; decide, fun d1_ hd1 => ?_⟩
    have cb1 := Same.refl H6
    have cb1 := cb1.trans s7
    have cb1 := cb1.trans s8
    have cb1 := cb1.trans s9
    have cb1 := cb1.trans s10
    have cb1 := cb1.trans s11
    have s12 := Same.new (o := .lst [y1, y1, y1, y1, y1]) hd1
    have e12 := upd_same (H := H11) (a := d1_) (o := .lst [y1, y1, y1, y1, y1])
    generalize upd H11 d1_ (.lst [y1, y1, y1, y1, y1]) = H12 at s12 e12 ⊢
    have c12 := c11.trans s12
    refine ⟨d0_, d1_, _, _, rfl, rfl, s12 _ _ (cb1 _ _ e6), e12, by show 10 ≤ sizeLine; decide, fun q1 hq1 => ?_⟩
    have s13 := Same.new (o := .lst ([y1, y1, y1, y1, y1] ++ [y1, y1, y1, y1, y1])) hq1
    have e13 := upd_same (H := H12) (a := q1) (o := .lst ([y1, y1, y1, y1, y1] ++ [y1, y1, y1, y1, y1]))
    generalize upd H12 q1 (.lst ([y1, y1, y1, y1, y1] ++ [y1, y1, y1, y1, y1])) = H13 at s13 e13 ⊢
    have e13 : H13 q1 = some (.lst [y1, y1, y1, y1, y1, y1, y1, y1, y1, y1]) := e13
    have c13 := c12.trans s13
    refine ⟨_, rfl, ?_⟩
    refine ⟨_, rfl, mk_ev (fl := ["owner"]) (ys := [y1]) rfl (by show 1 ≤ 900; decide) fun p14 H14 s14 n14 e14 => ⟨p14, A 11, _, y1, rfl, e14, xf 11 (by decide), XFull.nf _ (by simp), rfl, ?_⟩⟩
    have c14 := c13.trans s14
    refine ⟨_, rfl, mk_ev (fl := ["pick"]) (ys := [y1]) rfl (by show 1 ≤ 900; decide) fun p15 H15 s15 n15 e15 => ⟨p15, A 12, _, y1, rfl, e15, xf 12 (by decide), XNoPick.nf _ (by simp), rfl, ?_⟩⟩
    have c15 := c14.trans s15
    refine ⟨_, rfl, mk_ev (fl := ["rules"]) (ys := [y1]) rfl (by show 1 ≤ 900; decide) fun p16 H16 s16 n16 e16 => ⟨p16, A 13, _, y1, rfl, e16, xf 13 (by decide), XBroken.nf _ (by simp), rfl, ?_⟩⟩
    have c16 := c15.trans s16
    refine ⟨_, rfl, mk_ev (fl := ["at"]) (ys := [y1]) rfl (by show 1 ≤ 900; decide) fun p17 H17 s17 n17 e17 => ⟨p17, A 14, _, y1, rfl, e17, xf 14 (by decide), XBadHistory.nf _ (by simp), rfl, ?_⟩⟩
    have c17 := c16.trans s17
    refine ⟨by show 4 ≤ sizeLine; decide, fun d2_ hd2 => ?_⟩
    have cb2 := Same.refl H13
    have cb2 := cb2.trans s14
    have cb2 := cb2.trans s15
    have cb2 := cb2.trans s16
    have cb2 := cb2.trans s17
    have s18 := Same.new (o := .lst [y1, y1, y1, y1]) hd2
    have e18 := upd_same (H := H17) (a := d2_) (o := .lst [y1, y1, y1, y1])
    generalize upd H17 d2_ (.lst [y1, y1, y1, y1]) = H18 at s18 e18 ⊢
    have c18 := c17.trans s18
    refine ⟨q1, d2_, _, _, rfl, rfl, s18 _ _ (cb2 _ _ e13), e18, by show 14 ≤ sizeLine; decide, fun q2 hq2 => ?_⟩
    have s19 := Same.new (o := .lst ([y1, y1, y1, y1, y1, y1, y1, y1, y1, y1] ++ [y1, y1, y1, y1])) hq2
    have e19 := upd_same (H := H18) (a := q2) (o := .lst ([y1, y1, y1, y1, y1, y1, y1, y1, y1, y1] ++ [y1, y1, y1, y1]))
    generalize upd H18 q2 (.lst ([y1, y1, y1, y1, y1, y1, y1, y1, y1, y1] ++ [y1, y1, y1, y1])) = H19 at s19 e19 ⊢
    have e19 : H19 q2 = some (.lst [y1, y1, y1, y1, y1, y1, y1, y1, y1, y1, y1, y1, y1, y1]) := e19
    have c19 := c18.trans s19
    refine ⟨_, rfl, ?_⟩
    refine ⟨_, rfl, mk_ev (fl := ["standing"]) (ys := [y1]) rfl (by show 1 ≤ 900; decide) fun p20 H20 s20 n20 e20 => ⟨p20, A 15, _, y1, rfl, e20, xf 15 (by decide), XBadStanding.nf _ (by simp), rfl, ?_⟩⟩
    have c20 := c19.trans s20
    refine ⟨_, rfl, mk_ev (fl := ["at"]) (ys := [y1]) rfl (by show 1 ≤ 900; decide) fun p21 H21 s21 n21 e21 => ⟨p21, A 16, _, y1, rfl, e21, xf 16 (by decide), XBadWay.nf _ (by simp), rfl, ?_⟩⟩
    have c21 := c20.trans s21
    refine ⟨_, rfl, mk_ev (fl := ["standing"]) (ys := [y1]) rfl (by show 1 ≤ 900; decide) fun p22 H22 s22 n22 e22 => ⟨p22, A 17, _, y1, rfl, e22, xf 17 (by decide), XNoWay.nf _ (by simp), rfl, ?_⟩⟩
    have c22 := c21.trans s22
    refine ⟨_, rfl, mk_ev (fl := ["what"]) (ys := [y1]) rfl (by show 1 ≤ 900; decide) fun p23 H23 s23 n23 e23 => ⟨p23, A 19, _, y1, rfl, e23, xf 19 (by decide), XTooMany.nf _ (by simp), rfl, ?_⟩⟩
    have c23 := c22.trans s23
    refine ⟨by show 4 ≤ sizeLine; decide, fun d3_ hd3 => ?_⟩
    have cb3 := Same.refl H19
    have cb3 := cb3.trans s20
    have cb3 := cb3.trans s21
    have cb3 := cb3.trans s22
    have cb3 := cb3.trans s23
    have s24 := Same.new (o := .lst [y1, y1, y1, y1]) hd3
    have e24 := upd_same (H := H23) (a := d3_) (o := .lst [y1, y1, y1, y1])
    generalize upd H23 d3_ (.lst [y1, y1, y1, y1]) = H24 at s24 e24 ⊢
    have c24 := c23.trans s24
    refine ⟨q2, d3_, _, _, rfl, rfl, s24 _ _ (cb3 _ _ e19), e24, by show 18 ≤ sizeLine; decide, fun q3 hq3 => ?_⟩
    have s25 := Same.new (o := .lst ([y1, y1, y1, y1, y1, y1, y1, y1, y1, y1, y1, y1, y1, y1] ++ [y1, y1, y1, y1])) hq3
    have e25 := upd_same (H := H24) (a := q3) (o := .lst ([y1, y1, y1, y1, y1, y1, y1, y1, y1, y1, y1, y1, y1, y1] ++ [y1, y1, y1, y1]))
    generalize upd H24 q3 (.lst ([y1, y1, y1, y1, y1, y1, y1, y1, y1, y1, y1, y1, y1, y1] ++ [y1, y1, y1, y1])) = H25 at s25 e25 ⊢
    have e25 : H25 q3 = some (.lst [y1, y1, y1, y1, y1, y1, y1, y1, y1, y1, y1, y1, y1, y1, y1, y1, y1, y1]) := e25
    have c25 := c24.trans s25
    refine ⟨_, rfl, ?_⟩
    refine ⟨_, rfl, mk_ev (fl := ["name"]) (ys := [y1]) rfl (by show 1 ≤ 900; decide) fun p26 H26 s26 n26 e26 => ⟨p26, A 20, _, y1, rfl, e26, xf 20 (by decide), XNoDoor.nf _ (by simp), rfl, ?_⟩⟩
    have c26 := c25.trans s26
    refine ⟨_, rfl, mk_ev (fl := ["index"]) (ys := [y1]) rfl (by show 1 ≤ 900; decide) fun p27 H27 s27 n27 e27 => ⟨p27, A 21, _, y1, rfl, e27, xf 21 (by decide), XNoBegin.nf _ (by simp), rfl, ?_⟩⟩
    have c27 := c26.trans s27
    refine ⟨_, rfl, mk_ev (fl := ["owner"]) (ys := [y1]) rfl (by show 1 ≤ 900; decide) fun p28 H28 s28 n28 e28 => ⟨p28, A 22, _, y1, rfl, e28, xf 22 (by decide), XNoOwner.nf _ (by simp), rfl, ?_⟩⟩
    have c28 := c27.trans s28
    refine ⟨_, rfl, mk_ev (fl := ["row"]) (ys := [y1]) rfl (by show 1 ≤ 900; decide) fun p29 H29 s29 n29 e29 => ⟨p29, A 23, _, y1, rfl, e29, xf 23 (by decide), XNoRow.nf _ (by simp), rfl, ?_⟩⟩
    have c29 := c28.trans s29
    refine ⟨_, rfl, mk_ev (fl := ["rule"]) (ys := [y1]) rfl (by show 1 ≤ 900; decide) fun p30 H30 s30 n30 e30 => ⟨p30, A 24, _, y1, rfl, e30, xf 24 (by decide), XNoRule.nf _ (by simp), rfl, ?_⟩⟩
    have c30 := c29.trans s30
    refine ⟨by show 5 ≤ sizeLine; decide, fun d4_ hd4 => ?_⟩
    have cb4 := Same.refl H25
    have cb4 := cb4.trans s26
    have cb4 := cb4.trans s27
    have cb4 := cb4.trans s28
    have cb4 := cb4.trans s29
    have cb4 := cb4.trans s30
    have s31 := Same.new (o := .lst [y1, y1, y1, y1, y1]) hd4
    have e31 := upd_same (H := H30) (a := d4_) (o := .lst [y1, y1, y1, y1, y1])
    generalize upd H30 d4_ (.lst [y1, y1, y1, y1, y1]) = H31 at s31 e31 ⊢
    have c31 := c30.trans s31
    refine ⟨q3, d4_, _, _, rfl, rfl, s31 _ _ (cb4 _ _ e25), e31, by show 23 ≤ sizeLine; decide, fun q4 hq4 => ?_⟩
    have s32 := Same.new (o := .lst ([y1, y1, y1, y1, y1, y1, y1, y1, y1, y1, y1, y1, y1, y1, y1, y1, y1, y1] ++ [y1, y1, y1, y1, y1])) hq4
    have e32 := upd_same (H := H31) (a := q4) (o := .lst ([y1, y1, y1, y1, y1, y1, y1, y1, y1, y1, y1, y1, y1, y1, y1, y1, y1, y1] ++ [y1, y1, y1, y1, y1]))
    generalize upd H31 q4 (.lst ([y1, y1, y1, y1, y1, y1, y1, y1, y1, y1, y1, y1, y1, y1, y1, y1, y1, y1] ++ [y1, y1, y1, y1, y1])) = H32 at s32 e32 ⊢
    have e32 : H32 q4 = some (.lst [y1, y1, y1, y1, y1, y1, y1, y1, y1, y1, y1, y1, y1, y1, y1, y1, y1, y1, y1, y1, y1, y1, y1]) := e32
    have c32 := c31.trans s32
    refine ⟨_, rfl, ?_⟩
    refine ⟨_, rfl, mk_ev (fl := ["word"]) (ys := [y1]) rfl (by show 1 ≤ 900; decide) fun p33 H33 s33 n33 e33 => ⟨p33, A 25, _, y1, rfl, e33, xf 25 (by decide), XNoDivisor.nf _ (by simp), rfl, ?_⟩⟩
    have c33 := c32.trans s33
    refine ⟨_, rfl, mk_ev (fl := ["owner"]) (ys := [y1]) rfl (by show 1 ≤ 900; decide) fun p34 H34 s34 n34 e34 => ⟨p34, A 26, _, y1, rfl, e34, xf 26 (by decide), XWaits.nf _ (by simp), rfl, ?_⟩⟩
    have c34 := c33.trans s34
    refine ⟨_, rfl, mk_ev (fl := ["number"]) (ys := [y1]) rfl (by show 1 ≤ 900; decide) fun p35 H35 s35 n35 e35 => ⟨p35, A 28, _, y1, rfl, e35, xf 28 (by decide), XOver.nf _ (by simp), rfl, ?_⟩⟩
    have c35 := c34.trans s35
    refine ⟨_, rfl, mk_ev (fl := ["owner"]) (ys := [y1]) rfl (by show 1 ≤ 900; decide) fun p36 H36 s36 n36 e36 => ⟨p36, A 29, _, y1, rfl, e36, xf 29 (by decide), XBusy.nf _ (by simp), rfl, ?_⟩⟩
    have c36 := c35.trans s36
    refine ⟨by show 4 ≤ sizeLine; decide, fun d5_ hd5 => ?_⟩
    have cb5 := Same.refl H32
    have cb5 := cb5.trans s33
    have cb5 := cb5.trans s34
    have cb5 := cb5.trans s35
    have cb5 := cb5.trans s36
    have s37 := Same.new (o := .lst [y1, y1, y1, y1]) hd5
    have e37 := upd_same (H := H36) (a := d5_) (o := .lst [y1, y1, y1, y1])
    generalize upd H36 d5_ (.lst [y1, y1, y1, y1]) = H37 at s37 e37 ⊢
    have c37 := c36.trans s37
    refine ⟨q4, d5_, _, _, rfl, rfl, s37 _ _ (cb5 _ _ e32), e37, by show 27 ≤ sizeLine; decide, fun q5 hq5 => ?_⟩
    have s38 := Same.new (o := .lst ([y1, y1, y1, y1, y1, y1, y1, y1, y1, y1, y1, y1, y1, y1, y1, y1, y1, y1, y1, y1, y1, y1, y1] ++ [y1, y1, y1, y1])) hq5
    have e38 := upd_same (H := H37) (a := q5) (o := .lst ([y1, y1, y1, y1, y1, y1, y1, y1, y1, y1, y1, y1, y1, y1, y1, y1, y1, y1, y1, y1, y1, y1, y1] ++ [y1, y1, y1, y1]))
    generalize upd H37 q5 (.lst ([y1, y1, y1, y1, y1, y1, y1, y1, y1, y1, y1, y1, y1, y1, y1, y1, y1, y1, y1, y1, y1, y1, y1] ++ [y1, y1, y1, y1])) = H38 at s38 e38 ⊢
    have e38 : H38 q5 = some (.lst [y1, y1, y1, y1, y1, y1, y1, y1, y1, y1, y1, y1, y1, y1, y1, y1, y1, y1, y1, y1, y1, y1, y1, y1, y1, y1, y1]) := e38
    have c38 := c37.trans s38
    refine ⟨_, rfl, _, rfl, mk_ev (fl := ["door", "line"]) (ys := [y1, y2]) rfl (by show 2 ≤ 900; decide) fun pU HU sU nU eU => ?_⟩
    refine ⟨_, rfl, _, rfl, _, rfl, mk_ev (fl := ["door", "line", "why"]) (ys := [y1, y2, y3]) rfl (by show 3 ≤ 900; decide) fun pR HR sR nR eR => ?_⟩
    have eU := eU.same sR
    refine ⟨_, rfl, pU, A 6, _, y1, rfl, eU, xf 6 (by decide), XUnfit.nf _ (by simp), rfl, ?_⟩
    refine ⟨_, rfl, pU, A 6, _, y2, rfl, eU, xf 6 (by decide), XUnfit.nf _ (by simp), rfl, ?_⟩
    refine ⟨_, rfl, pR, A 27, _, y1, rfl, eR, xf 27 (by decide), XRefused.nf _ (by simp), rfl, ?_⟩
    refine ⟨_, rfl, pR, A 27, _, y2, rfl, eR, xf 27 (by decide), XRefused.nf _ (by simp), rfl, ?_⟩
    refine ⟨_, rfl, pR, A 27, _, y3, rfl, eR, xf 27 (by decide), XRefused.nf _ (by simp), rfl, ?_⟩
    refine ⟨by show 5 ≤ sizeLine; decide, fun a ha => ⟨_, rfl, _, rfl, _, rfl, _, rfl, _, rfl, by show 5 ≤ sizeLine; decide, fun b hb => ?_⟩⟩
    have sa := Same.new (o := .lst [y1, y2, y1, y2, y3]) ha
    have ea := upd_same (H := HR) (a := a) (o := .lst [y1, y2, y1, y2, y3])
    have sb := Same.new (o := .lst [y1, y2, y1, y2, y3]) hb
    have ea := sb _ _ ea
    have eb := upd_same (H := upd HR a (.lst [y1, y2, y1, y2, y3])) (a := b) (o := .lst [y1, y2, y1, y2, y3])
    have cc := (((c38.trans sU).trans sR).trans sa).trans sb
    have ex := (((sU.trans sR).trans sa).trans sb) _ _ e38
    generalize upd (upd HR a (.lst [y1, y2, y1, y2, y3])) b (.lst [y1, y2, y1, y2, y3]) = HZ at ea eb cc ex ⊢
    have g1 := h1.same cc
    have g2 := h2.same cc
    have g3 := h3.same cc
    have dd : DpAll K HZ [y1, y2, y1, y2, y3] [d1, d2, d1, d2, d3] := .cons g1.dp (.cons g2.dp (.cons g1.dp (.cons g2.dp (.cons g3.dp .nil))))
    refine ⟨.list [d1, d2, d1, d2, d3], .list [d1, d2, d1, d2, d3], .lst (SqL.of ea) dd, .lst (SqL.of eb) dd, Vl.shaped5 g1 g2 g3, Vl.shaped5 g1 g2 g3, _, rfl, ?_⟩
    rw [eqv_refl' (Vl.shaped5 g1 g2 g3)]
    refine iteF ?_
    obtain ⟨ty, hty, hkb⟩ := g1.ty
    refine ⟨_, rfl, _, rfl, ⟨_, SqL.of ex⟩, ?_⟩
    refine for_list (K := K) (fun i σ H' => H' = HZ ∧ ∃ x6, σ = [some y1, some y2, some y3, some (.ref q5), some (.ref pU), some (.ref pR), x6]) ⟨rfl, _, rfl⟩ (fun i σ H' _ hp => by rw [hp.1]; exact SqL.of ex) ?_ ?_
    · rintro i x σ H' hx ⟨rfl, x6, rfl⟩
      have hx1 : x = y1 := by
        have hm := List.mem_of_getElem? hx
        simpa using hm
      subst hx1
      refine ⟨_, rfl, _, rfl, d1, d1, g1.dp, g1.dp, g1.shaped, g1.shaped, _, rfl, ?_⟩
      rw [eqv_refl' g1.shaped]
      refine iteF ?_
      refine ⟨_, rfl, _, _, _, _, b1, rfl, .ty "bool", hty, kit_ty hkb, _, rfl, _, _, _, _, b1, rfl, .ty "bool", hty, kit_ty hkb, .bool b1, .bool b1, .bl _, .bl _, rfl, rfl, _, rfl, ?_⟩
      rw [eqv_refl' (d := .bool b1) (by cases b1 <;> rfl)]
      exact iteF ⟨rfl, _, rfl⟩
    · rintro σ H' ⟨rfl, x6, rfl⟩
      refine ⟨_, rfl, _, _, rfl, .inl ⟨_, SqL.of ex, rfl⟩, rfl, ?_⟩
      exact k _
end
end Cs

set_option Elab.async false
set_option linter.all false
set_option maxRecDepth 100000
set_option maxHeartbeats 16000000
set_option pp.maxSteps 400

/-! The law of the errors made. -/
namespace Cs
open PySem L2
section
variable {P : Program} {w : World} {K : PySem.W.Frag} {mg : Str → Option Value} {base : Heap}
def spLaw33 (K : PySem.W.Frag) : Sp := fun vs H Q _ => ∃ (a : Addr) (ns : List Int), vs = [.ref a] ∧ SqL K H a (ns.map V.int) ∧ ns.length ≤ 63 ∧ ∀ H', Q (.bl true) H'
def EL (A : Nat → Addr) (H : Hp) (off : Nat) (ps : List Addr) : Prop := ∀ i p, ps[i]? = some p → AnyErr H p (A (off + i))
theorem EL.same {A : Nat → Addr} {H H' : Hp} {off : Nat} {ps : List Addr} (h : EL A H off ps) (s : Same H H') : EL A H' off ps := fun i p e => (h i p e).same s
theorem EL.snoc {A : Nat → Addr} {H H' : Hp} {off : Nat} {ps : List Addr} {q : Addr} (h : EL A H off ps) (s : Same H H') (z : AnyErr H' q (A (off + ps.length))) : EL A H' off (ps ++ [q]) := fun i p e => by
  by_cases hi : i < ps.length
  · rw [List.getElem?_append_left hi] at e
    exact (h i p e).same s
  · have h2 : i = ps.length := by
      have := (List.getElem?_eq_some_iff.mp e).1
      rw [List.length_append] at this
      simp at this
      omega
    subst h2
    rw [List.getElem?_append_right (Nat.le_refl _)] at e
    simp at e
    subst e
    exact z
theorem EL.get {A : Nat → Addr} {H : Hp} {off : Nat} {ps : List Addr} (h : EL A H off ps) {i : Nat} (hi : i < ps.length) : ∃ p, atI (ps.map V.ref) (0 + (i : Int)) = some (.ref p) ∧ AnyErr H p (A (off + i)) := by
  refine ⟨ps[i], ?_, h i _ (List.getElem?_eq_getElem hi)⟩
  rw [Int.zero_add]
  exact atI_nat (by rw [List.getElem?_map, List.getElem?_eq_getElem hi]; rfl)
def blD (f : Nat → Bool) (n : Nat) : PyData := .list ((List.range n).map fun j => .bool (f j))
theorem dp_bls {H : Hp} {f : Nat → Bool} : ∀ l : List Nat, DpAll K H (l.map fun j => V.bl (f j)) (l.map fun j => .bool (f j))
  | [] => .nil
  | _ :: l => .cons (.bl _) (dp_bls l)
theorem can_bls {f : Nat → Bool} : ∀ l : List Nat, PyData.canLayAll0 (l.map fun j => .bool (f j)) = true
  | [] => rfl
  | _ :: l => by rw [List.map_cons, PyData.canLayAll0, can_bls l]; rfl
theorem dep_bls {f : Nat → Bool} : ∀ l : List Nat, PyData.depthAll (l.map fun j => .bool (f j)) = 0
  | [] => rfl
  | _ :: l => by rw [List.map_cons, PyData.depthAll, dep_bls l]; rfl
theorem blD_shaped {f : Nat → Bool} {n : Nat} : SeqAt.shaped (blD f n) = true := by
  unfold SeqAt.shaped blD
  rw [Bool.and_eq_true]
  exact ⟨by rw [PyData.canLay0]; exact can_bls _, decide_eq_true (by rw [PyData.depth, dep_bls]; decide)⟩
theorem bl_dp {H : Hp} {q : Addr} {f : Nat → Bool} {n : Nat} (h : H q = some (.lst (blL f n))) : Dp K H (.ref q) (blD f n) := .lst (SqL.of h) (dp_bls _)
theorem blL_congr {f f' : Nat → Bool} {n : Nat} (h : ∀ j, j < n → f j = f' j) : blL f n = blL f' n := by
  unfold blL
  exact List.map_congr_left fun j hj => by rw [h j (List.mem_range.mp hj)]
theorem inV_no {f : Nat → Bool} {n : Nat} (h : ∀ j, j < n → f j = false) : inV (.bl true) (blL f n) = false := by
  rw [blL_congr (f' := fun _ => false) h]
  unfold inV blL
  rw [List.any_eq_false]
  intro y hy
  obtain ⟨j, _, rfl⟩ := List.mem_map.mp hy
  show ¬ (eqV (.bl false) (.bl true) = true)
  decide
theorem bl_flat {f : Nat → Bool} {n : Nat} : (blL f n).all flatV = true := by
  unfold blL
  rw [List.all_eq_true]
  intro y hy
  obtain ⟨j, _, rfl⟩ := List.mem_map.mp hy
  rfl

theorem ok_law {f ce fS fV fFi fSe fBa fRo fVs : Addr} {fd fdS fdV fdFi fdSe fdBa fdRo fdVs : FuncData} {A : Nat → Addr} (F : Fun K "law" "law" s_law f fd) (g : Bi mg) (E : E30 K mg A ce) {fBadWord : Addr} {fdBadWord : FuncData} {fBadNumber : Addr} {fdBadNumber : FuncData} {fBadCounts : Addr} {fdBadCounts : FuncData} {fBadRule : Addr} {fdBadRule : FuncData} {fBadRules : Addr} {fdBadRules : FuncData} {fBadDoor : Addr} {fdBadDoor : FuncData} {fUnfit : Addr} {fdUnfit : FuncData} {fBadDesk : Addr} {fdBadDesk : FuncData} {fBadText : Addr} {fdBadText : FuncData} {fNotLoose : Addr} {fdNotLoose : FuncData} {fNamed : Addr} {fdNamed : FuncData} {fFull : Addr} {fdFull : FuncData} {fNoPick : Addr} {fdNoPick : FuncData} {fBroken : Addr} {fdBroken : FuncData} {fBadHistory : Addr} {fdBadHistory : FuncData} {fBadStanding : Addr} {fdBadStanding : FuncData} {fBadWay : Addr} {fdBadWay : FuncData} {fNoWay : Addr} {fdNoWay : FuncData} {fTooMany : Addr} {fdTooMany : FuncData} {fNoDoor : Addr} {fdNoDoor : FuncData} {fNoBegin : Addr} {fdNoBegin : FuncData} {fNoOwner : Addr} {fdNoOwner : FuncData} {fNoRow : Addr} {fdNoRow : FuncData} {fNoRule : Addr} {fdNoRule : FuncData} {fNoDivisor : Addr} {fdNoDivisor : FuncData} {fWaits : Addr} {fdWaits : FuncData} {fRefused : Addr} {fdRefused : FuncData} {fOver : Addr} {fdOver : FuncData} {fBusy : Addr} {fdBusy : FuncData} (XBadWord : EDf P w K mg base "BadWord" (A 0) fBadWord ["word"] fdBadWord) (XBadNumber : EDf P w K mg base "BadNumber" (A 1) fBadNumber ["number"] fdBadNumber) (XBadCounts : EDf P w K mg base "BadCounts" (A 2) fBadCounts ["at"] fdBadCounts) (XBadRule : EDf P w K mg base "BadRule" (A 3) fBadRule ["what"] fdBadRule) (XBadRules : EDf P w K mg base "BadRules" (A 4) fBadRules ["what"] fdBadRules) (XBadDoor : EDf P w K mg base "BadDoor" (A 5) fBadDoor ["at"] fdBadDoor) (XUnfit : EDf P w K mg base "Unfit" (A 6) fUnfit ["door", "line"] fdUnfit) (XBadDesk : EDf P w K mg base "BadDesk" (A 7) fBadDesk ["what"] fdBadDesk) (XBadText : EDf P w K mg base "BadText" (A 8) fBadText ["at"] fdBadText) (XNotLoose : EDf P w K mg base "NotLoose" (A 9) fNotLoose ["kind"] fdNotLoose) (XNamed : EDf P w K mg base "Named" (A 10) fNamed ["row"] fdNamed) (XFull : EDf P w K mg base "Full" (A 11) fFull ["owner"] fdFull) (XNoPick : EDf P w K mg base "NoPick" (A 12) fNoPick ["pick"] fdNoPick) (XBroken : EDf P w K mg base "Broken" (A 13) fBroken ["rules"] fdBroken) (XBadHistory : EDf P w K mg base "BadHistory" (A 14) fBadHistory ["at"] fdBadHistory) (XBadStanding : EDf P w K mg base "BadStanding" (A 15) fBadStanding ["standing"] fdBadStanding) (XBadWay : EDf P w K mg base "BadWay" (A 16) fBadWay ["at"] fdBadWay) (XNoWay : EDf P w K mg base "NoWay" (A 17) fNoWay ["standing"] fdNoWay) (XTooMany : EDf P w K mg base "TooMany" (A 19) fTooMany ["what"] fdTooMany) (XNoDoor : EDf P w K mg base "NoDoor" (A 20) fNoDoor ["name"] fdNoDoor) (XNoBegin : EDf P w K mg base "NoBegin" (A 21) fNoBegin ["index"] fdNoBegin) (XNoOwner : EDf P w K mg base "NoOwner" (A 22) fNoOwner ["owner"] fdNoOwner) (XNoRow : EDf P w K mg base "NoRow" (A 23) fNoRow ["row"] fdNoRow) (XNoRule : EDf P w K mg base "NoRule" (A 24) fNoRule ["rule"] fdNoRule) (XNoDivisor : EDf P w K mg base "NoDivisor" (A 25) fNoDivisor ["word"] fdNoDivisor) (XWaits : EDf P w K mg base "Waits" (A 26) fWaits ["owner"] fdWaits) (XRefused : EDf P w K mg base "Refused" (A 27) fRefused ["door", "line", "why"] fdRefused) (XOver : EDf P w K mg base "Over" (A 28) fOver ["number"] fdOver) (XBusy : EDf P w K mg base "Busy" (A 29) fBusy ["owner"] fdBusy)
    (xNotKept : PySem.W.excIn K (A 18) PySem.HandSPX.veTail "ValueError.__new__" = true) (kNotKept : PySem.W.keepIn K (.ref (A 18)) = true)
    (FS : Def P w K mg base CX0 1 "_law_source" ["_law_script"] (spSource K) fS fdS) (FVa : Def P w K mg base CX0 4 "_law_value" ["_law_source_here"] spValue fV fdV) (FFi : Def P w K mg base CX0 1 "_law_first" ["_law_e"] (spIsE A (fun i j => decide (i = j)) 20) fFi fdFi)
    (FSe : Def P w K mg base CX0 1 "_law_second" ["_law_e"] (spIsE A (fun i j => decide (i = j + 20)) 10) fSe fdSe) (FBa : Def P w K mg base CX0 1 "_law_bases" ["_law_e"] (spIsE A baseF 5) fBa fdBa)
    (FRo : Def P w K mg base CX0 1 "_law_row" ["_law_at", "_law_many"] spRow fRo fdRo) (FVs : Def P w K mg base CX0 3 "_law_values" ["_law_one", "_law_two", "_law_three"] (spVals ()) fVs fdVs) :
    FnOk P w K mg base CX0 5 f fd ["_law_script"] (spLaw33 K) := by
  obtain ⟨GS, mS, _, bS⟩ := id FS
  obtain ⟨GVa, mVa, _, bVa⟩ := id FVa
  obtain ⟨GFi, mFi, _, bFi⟩ := id FFi
  obtain ⟨GSe, mSe, _, bSe⟩ := id FSe
  obtain ⟨GBa, mBa, _, bBa⟩ := id FBa
  obtain ⟨GRo, mRo, _, bRo⟩ := id FRo
  obtain ⟨GVs, mVs, _, bVs⟩ := id FVs
  have mNotKept : mg "NotKept" = some (.ref (A 18)) := E.m 18 (by decide)
  refine F.ok sc_law (fun vs H Q E h => ?_) (fun cdv A' outer s H vs Q E' hr h => ?_)
  · obtain ⟨_, _, rfl, _⟩ := h
    rfl
  · obtain ⟨sc, ns, rfl, hS, hlen, kQ⟩ := h
    have hrS : Room 1 _ := hr.mono (by decide)
    have hrX : Room 2 _ := hr.mono (by decide)
    have hrVa : Room 4 _ := hr.mono (by decide)
    have hrFi : Room 1 _ := hr.mono (by decide)
    have hrSe : Room 1 _ := hr.mono (by decide)
    have hrBa : Room 1 _ := hr.mono (by decide)
    have hrRo : Room 1 _ := hr.mono (by decide)
    have hrVs : Room 3 _ := hr.mono (by decide)
    refine ⟨_, (pss_cons (ps_set (i := 1) sc_law.nd rfl (Or.inl rfl) (pe_call GS hrS rfl mS FS.kp bS .nil pass0 (pa_cons (pv 0) pa_nil)))
      (pss_cons (ps_set (i := 2) sc_law.nd rfl (Or.inl rfl) (pe_call GVa hrVa rfl mVa FVa.kp bVa .nil pass0 (pa_cons (pv 1) pa_nil)))
      (pss_cons (ps_set (i := 3) sc_law.nd rfl (Or.inl rfl) (pe_call GVa hrVa rfl mVa FVa.kp bVa .nil pass0 (pa_cons (pv 1) pa_nil)))
      (pss_cons (ps_set (i := 4) sc_law.nd rfl (Or.inl rfl) (pe_call GVa hrVa rfl mVa FVa.kp bVa .nil pass0 (pa_cons (pv 1) pa_nil)))
      (pss_cons (ps_set (i := 5) sc_law.nd rfl (Or.inl rfl) (pe_lst (pa_cons (pe_mkV XBadWord.c XBadWord.iC XBadWord.tI XBadWord.ok hrX XBadWord.b .nil pass0 rfl XBadWord.mg_ (pa_cons (pv 2) pa_nil)) (pa_cons (pe_mkV XBadNumber.c XBadNumber.iC XBadNumber.tI XBadNumber.ok hrX XBadNumber.b .nil pass0 rfl XBadNumber.mg_ (pa_cons (pv 2) pa_nil)) (pa_cons (pe_mkV XBadCounts.c XBadCounts.iC XBadCounts.tI XBadCounts.ok hrX XBadCounts.b .nil pass0 rfl XBadCounts.mg_ (pa_cons (pv 2) pa_nil)) (pa_cons (pe_mkV XBadRule.c XBadRule.iC XBadRule.tI XBadRule.ok hrX XBadRule.b .nil pass0 rfl XBadRule.mg_ (pa_cons (pv 2) pa_nil)) (pa_cons (pe_mkV XBadRules.c XBadRules.iC XBadRules.tI XBadRules.ok hrX XBadRules.b .nil pass0 rfl XBadRules.mg_ (pa_cons (pv 2) pa_nil)) (pa_cons (pe_mkV XBadDoor.c XBadDoor.iC XBadDoor.tI XBadDoor.ok hrX XBadDoor.b .nil pass0 rfl XBadDoor.mg_ (pa_cons (pv 2) pa_nil)) (pa_cons (pe_mkV XUnfit.c XUnfit.iC XUnfit.tI XUnfit.ok hrX XUnfit.b .nil pass0 rfl XUnfit.mg_ (pa_cons (pv 2) (pa_cons (pv 3) pa_nil))) pa_nil)))))))))
      (pss_cons (ps_set (i := 5) sc_law.nd rfl (Or.inl rfl) (pe_op op_cat (pv 5) (pe_lst (pa_cons (pe_mkV XBadDesk.c XBadDesk.iC XBadDesk.tI XBadDesk.ok hrX XBadDesk.b .nil pass0 rfl XBadDesk.mg_ (pa_cons (pv 2) pa_nil)) (pa_cons (pe_mkV XBadText.c XBadText.iC XBadText.tI XBadText.ok hrX XBadText.b .nil pass0 rfl XBadText.mg_ (pa_cons (pv 2) pa_nil)) (pa_cons (pe_mkV XNotLoose.c XNotLoose.iC XNotLoose.tI XNotLoose.ok hrX XNotLoose.b .nil pass0 rfl XNotLoose.mg_ (pa_cons (pv 2) pa_nil)) (pa_cons (pe_mkV XNamed.c XNamed.iC XNamed.tI XNamed.ok hrX XNamed.b .nil pass0 rfl XNamed.mg_ (pa_cons (pv 2) pa_nil)) (pa_cons (pe_mkV XFull.c XFull.iC XFull.tI XFull.ok hrX XFull.b .nil pass0 rfl XFull.mg_ (pa_cons (pv 2) pa_nil)) (pa_cons (pe_mkV XNoPick.c XNoPick.iC XNoPick.tI XNoPick.ok hrX XNoPick.b .nil pass0 rfl XNoPick.mg_ (pa_cons (pv 2) pa_nil)) (pa_cons (pe_mkV XBroken.c XBroken.iC XBroken.tI XBroken.ok hrX XBroken.b .nil pass0 rfl XBroken.mg_ (pa_cons (pv 2) pa_nil)) pa_nil))))))))))
      (pss_cons (ps_set (i := 5) sc_law.nd rfl (Or.inl rfl) (pe_op op_cat (pv 5) (pe_lst (pa_cons (pe_mkV XBadHistory.c XBadHistory.iC XBadHistory.tI XBadHistory.ok hrX XBadHistory.b .nil pass0 rfl XBadHistory.mg_ (pa_cons (pv 2) pa_nil)) (pa_cons (pe_mkV XBadStanding.c XBadStanding.iC XBadStanding.tI XBadStanding.ok hrX XBadStanding.b .nil pass0 rfl XBadStanding.mg_ (pa_cons (pv 2) pa_nil)) (pa_cons (pe_mkV XBadWay.c XBadWay.iC XBadWay.tI XBadWay.ok hrX XBadWay.b .nil pass0 rfl XBadWay.mg_ (pa_cons (pv 2) pa_nil)) (pa_cons (pe_mkV XNoWay.c XNoWay.iC XNoWay.tI XNoWay.ok hrX XNoWay.b .nil pass0 rfl XNoWay.mg_ (pa_cons (pv 2) pa_nil)) (pa_cons (pe_mkV0 PySem.F.excBase_ValueError xNotKept mNotKept kNotKept rfl) (pa_cons (pe_mkV XTooMany.c XTooMany.iC XTooMany.tI XTooMany.ok hrX XTooMany.b .nil pass0 rfl XTooMany.mg_ (pa_cons (pv 2) pa_nil)) pa_nil)))))))))
      (pss_cons (ps_set (i := 6) sc_law.nd rfl (Or.inl rfl) (pe_lst (pa_cons (pe_mkV XNoDoor.c XNoDoor.iC XNoDoor.tI XNoDoor.ok hrX XNoDoor.b .nil pass0 rfl XNoDoor.mg_ (pa_cons (pv 2) pa_nil)) (pa_cons (pe_mkV XNoBegin.c XNoBegin.iC XNoBegin.tI XNoBegin.ok hrX XNoBegin.b .nil pass0 rfl XNoBegin.mg_ (pa_cons (pv 2) pa_nil)) (pa_cons (pe_mkV XNoOwner.c XNoOwner.iC XNoOwner.tI XNoOwner.ok hrX XNoOwner.b .nil pass0 rfl XNoOwner.mg_ (pa_cons (pv 2) pa_nil)) (pa_cons (pe_mkV XNoRow.c XNoRow.iC XNoRow.tI XNoRow.ok hrX XNoRow.b .nil pass0 rfl XNoRow.mg_ (pa_cons (pv 2) pa_nil)) (pa_cons (pe_mkV XNoRule.c XNoRule.iC XNoRule.tI XNoRule.ok hrX XNoRule.b .nil pass0 rfl XNoRule.mg_ (pa_cons (pv 2) pa_nil)) (pa_cons (pe_mkV XNoDivisor.c XNoDivisor.iC XNoDivisor.tI XNoDivisor.ok hrX XNoDivisor.b .nil pass0 rfl XNoDivisor.mg_ (pa_cons (pv 2) pa_nil)) (pa_cons (pe_mkV XWaits.c XWaits.iC XWaits.tI XWaits.ok hrX XWaits.b .nil pass0 rfl XWaits.mg_ (pa_cons (pv 2) pa_nil)) pa_nil)))))))))
      (pss_cons (ps_set (i := 6) sc_law.nd rfl (Or.inl rfl) (pe_op op_cat (pv 6) (pe_lst (pa_cons (pe_mkV XRefused.c XRefused.iC XRefused.tI XRefused.ok hrX XRefused.b .nil pass0 rfl XRefused.mg_ (pa_cons (pv 2) (pa_cons (pv 3) (pa_cons (pv 4) pa_nil)))) (pa_cons (pe_mkV XOver.c XOver.iC XOver.tI XOver.ok hrX XOver.b .nil pass0 rfl XOver.mg_ (pa_cons (pv 2) pa_nil)) (pa_cons (pe_mkV XBusy.c XBusy.iC XBusy.tI XBusy.ok hrX XBusy.b .nil pass0 rfl XBusy.mg_ (pa_cons (pv 2) pa_nil)) pa_nil))))))
      (pss_cons (ps_for PassesOwn.never rfl (pi_range1 rfl g.range (pa_cons pe_int pa_nil)) (pg_name (i := 7) sc_law.nd rfl (Or.inl rfl)) (pss_cons (ps_if (PW.pt (pw_or (pt_cmpR (op_neD hr.units) (pe_call GFi hrFi rfl mFi FFi.kp bFi .nil pass0 (pa_cons (pe_ix ix_list (pv 5) (pv 7) (fun _ _ => rfl)) pa_nil)) (pe_call GRo hrRo rfl mRo FRo.kp bRo .nil pass0 (pa_cons (pv 7) (pa_cons pe_int pa_nil))) (nomark _)) (pw_or1 (pt_cmpR op_in_seq pe_bl (pe_call GSe hrSe rfl mSe FSe.kp bSe .nil pass0 (pa_cons (pe_ix ix_list (pv 5) (pv 7) (fun _ _ => rfl)) pa_nil)) (by rfl))))) (pss_one (ps_ret pe_bl)) pss_nil)
      (pss_one (ps_if (pt_cmpR (op_neD hr.units) (pe_call GBa hrBa rfl mBa FBa.kp bBa .nil pass0 (pa_cons (pe_ix ix_list (pv 5) (pv 7) (fun _ _ => rfl)) pa_nil)) (pe_lst (pa_cons pe_bl (pa_cons pe_bl (pa_cons pe_bl (pa_cons pe_bl (pa_cons pe_bl pa_nil)))))) (nomark _)) (pss_one (ps_ret pe_bl)) pss_nil))))
      (pss_cons (ps_for PassesOwn.never rfl (pi_range1 rfl g.range (pa_cons pe_int pa_nil)) (pg_name (i := 7) sc_law.nd rfl (Or.inl rfl)) (pss_cons (ps_if (PW.pt (pw_or (pt_cmpR (op_neD hr.units) (pe_call GSe hrSe rfl mSe FSe.kp bSe .nil pass0 (pa_cons (pe_ix ix_list (pv 6) (pv 7) (fun _ _ => rfl)) pa_nil)) (pe_call GRo hrRo rfl mRo FRo.kp bRo .nil pass0 (pa_cons (pv 7) (pa_cons pe_int pa_nil))) (nomark _)) (pw_or1 (pt_cmpR op_in_seq pe_bl (pe_call GFi hrFi rfl mFi FFi.kp bFi .nil pass0 (pa_cons (pe_ix ix_list (pv 6) (pv 7) (fun _ _ => rfl)) pa_nil)) (by rfl))))) (pss_one (ps_ret pe_bl)) pss_nil)
      (pss_one (ps_if (pt_cmpR (op_neD hr.units) (pe_call GBa hrBa rfl mBa FBa.kp bBa .nil pass0 (pa_cons (pe_ix ix_list (pv 6) (pv 7) (fun _ _ => rfl)) pa_nil)) (pe_lst (pa_cons pe_bl (pa_cons pe_bl (pa_cons (pe_cmpR op_lt (pv 7) pe_int (nomark _)) (pa_cons (pe_cmpR op_eq (pv 7) pe_int (nomark _)) (pa_cons (pe_cmpR op_gt (pv 7) pe_int (nomark _)) pa_nil)))))) (nomark _)) (pss_one (ps_ret pe_bl)) pss_nil))))
      (pss_one (ps_ret (pe_call GVs hrVs rfl mVs FVs.kp bVs .nil pass0 (pa_cons (pv 2) (pa_cons (pv 3) (pa_cons (pv 4) pa_nil))))))))))))))))), ?_⟩
    refine ⟨_, rfl, sc, ns, rfl, hS, fun p c H1 hp hc s1 S1 => ?_⟩
    refine ⟨_, rfl, p, c, rfl, S1, fun y1 d1 b1 H2 h1 S2 k2 => ?_⟩
    refine ⟨_, rfl, p, c, rfl, S2, fun y2 d2 b2 H3 h2 S3 k3 => ?_⟩
    refine ⟨_, rfl, p, c, rfl, S3, fun y3 d3 b3 H0 h3 S4 k4 => ?_⟩
    have h1 := (h1.kp S2 k3).kp S3 k4
    have h2 := h2.kp S3 k4
    clear S1 S2 S3 S4 k2 k3 k4 s1 hp hc hS
    have c0 : Same H0 H0 := Same.refl H0
    have E0 : EL A H0 0 [] := fun i p e => by cases i <;> cases e
    refine ⟨_, rfl, mk_ev (fl := ["word"]) (ys := [y1]) rfl (by show 1 ≤ 900; decide) fun pBadWord H1 s1 n1 e1 => ?_⟩
    have c1 := c0.trans s1
    have E1 : EL A H1 0 [pBadWord] := EL.snoc E0 s1 (.inl ⟨_, e1⟩)
    refine ⟨_, rfl, mk_ev (fl := ["number"]) (ys := [y1]) rfl (by show 1 ≤ 900; decide) fun pBadNumber H2 s2 n2 e2 => ?_⟩
    have c2 := c1.trans s2
    have E2 : EL A H2 0 [pBadWord, pBadNumber] := EL.snoc E1 s2 (.inl ⟨_, e2⟩)
    refine ⟨_, rfl, mk_ev (fl := ["at"]) (ys := [y1]) rfl (by show 1 ≤ 900; decide) fun pBadCounts H3 s3 n3 e3 => ?_⟩
    have c3 := c2.trans s3
    have E3 : EL A H3 0 [pBadWord, pBadNumber, pBadCounts] := EL.snoc E2 s3 (.inl ⟨_, e3⟩)
    refine ⟨_, rfl, mk_ev (fl := ["what"]) (ys := [y1]) rfl (by show 1 ≤ 900; decide) fun pBadRule H4 s4 n4 e4 => ?_⟩
    have c4 := c3.trans s4
    have E4 : EL A H4 0 [pBadWord, pBadNumber, pBadCounts, pBadRule] := EL.snoc E3 s4 (.inl ⟨_, e4⟩)
    refine ⟨_, rfl, mk_ev (fl := ["what"]) (ys := [y1]) rfl (by show 1 ≤ 900; decide) fun pBadRules H5 s5 n5 e5 => ?_⟩
    have c5 := c4.trans s5
    have E5 : EL A H5 0 [pBadWord, pBadNumber, pBadCounts, pBadRule, pBadRules] := EL.snoc E4 s5 (.inl ⟨_, e5⟩)
    refine ⟨_, rfl, mk_ev (fl := ["at"]) (ys := [y1]) rfl (by show 1 ≤ 900; decide) fun pBadDoor H6 s6 n6 e6 => ?_⟩
    have c6 := c5.trans s6
    have E6 : EL A H6 0 [pBadWord, pBadNumber, pBadCounts, pBadRule, pBadRules, pBadDoor] := EL.snoc E5 s6 (.inl ⟨_, e6⟩)
    refine ⟨_, rfl, _, rfl, mk_ev (fl := ["door", "line"]) (ys := [y1, y2]) rfl (by show 2 ≤ 900; decide) fun pUnfit H7 s7 n7 e7 => ?_⟩
    have c7 := c6.trans s7
    have E7 : EL A H7 0 [pBadWord, pBadNumber, pBadCounts, pBadRule, pBadRules, pBadDoor, pUnfit] := EL.snoc E6 s7 (.inl ⟨_, e7⟩)
    refine ⟨by show 7 ≤ sizeLine; decide, fun da0 hda0 => ?_⟩
    have cba0 := Same.refl H0
    have cba0 := cba0.trans s1
    have cba0 := cba0.trans s2
    have cba0 := cba0.trans s3
    have cba0 := cba0.trans s4
    have cba0 := cba0.trans s5
    have cba0 := cba0.trans s6
    have cba0 := cba0.trans s7
    have s8 := Same.new (o := .lst [.ref pBadWord, .ref pBadNumber, .ref pBadCounts, .ref pBadRule, .ref pBadRules, .ref pBadDoor, .ref pUnfit]) hda0
    have e8 := upd_same (H := H7) (a := da0) (o := .lst [.ref pBadWord, .ref pBadNumber, .ref pBadCounts, .ref pBadRule, .ref pBadRules, .ref pBadDoor, .ref pUnfit])
    generalize upd H7 da0 (.lst [.ref pBadWord, .ref pBadNumber, .ref pBadCounts, .ref pBadRule, .ref pBadRules, .ref pBadDoor, .ref pUnfit]) = H8 at s8 e8 ⊢
    have c8 := c7.trans s8
    have E8 := E7.same s8
    refine ⟨_, rfl, ?_⟩
    refine ⟨_, rfl, mk_ev (fl := ["what"]) (ys := [y1]) rfl (by show 1 ≤ 900; decide) fun pBadDesk H9 s9 n9 e9 => ?_⟩
    have c9 := c8.trans s9
    have E9 : EL A H9 0 [pBadWord, pBadNumber, pBadCounts, pBadRule, pBadRules, pBadDoor, pUnfit, pBadDesk] := EL.snoc E8 s9 (.inl ⟨_, e9⟩)
    refine ⟨_, rfl, mk_ev (fl := ["at"]) (ys := [y1]) rfl (by show 1 ≤ 900; decide) fun pBadText H10 s10 n10 e10 => ?_⟩
    have c10 := c9.trans s10
    have E10 : EL A H10 0 [pBadWord, pBadNumber, pBadCounts, pBadRule, pBadRules, pBadDoor, pUnfit, pBadDesk, pBadText] := EL.snoc E9 s10 (.inl ⟨_, e10⟩)
    refine ⟨_, rfl, mk_ev (fl := ["kind"]) (ys := [y1]) rfl (by show 1 ≤ 900; decide) fun pNotLoose H11 s11 n11 e11 => ?_⟩
    have c11 := c10.trans s11
    have E11 : EL A H11 0 [pBadWord, pBadNumber, pBadCounts, pBadRule, pBadRules, pBadDoor, pUnfit, pBadDesk, pBadText, pNotLoose] := EL.snoc E10 s11 (.inl ⟨_, e11⟩)
    refine ⟨_, rfl, mk_ev (fl := ["row"]) (ys := [y1]) rfl (by show 1 ≤ 900; decide) fun pNamed H12 s12 n12 e12 => ?_⟩
    have c12 := c11.trans s12
    have E12 : EL A H12 0 [pBadWord, pBadNumber, pBadCounts, pBadRule, pBadRules, pBadDoor, pUnfit, pBadDesk, pBadText, pNotLoose, pNamed] := EL.snoc E11 s12 (.inl ⟨_, e12⟩)
    refine ⟨_, rfl, mk_ev (fl := ["owner"]) (ys := [y1]) rfl (by show 1 ≤ 900; decide) fun pFull H13 s13 n13 e13 => ?_⟩
    have c13 := c12.trans s13
    have E13 : EL A H13 0 [pBadWord, pBadNumber, pBadCounts, pBadRule, pBadRules, pBadDoor, pUnfit, pBadDesk, pBadText, pNotLoose, pNamed, pFull] := EL.snoc E12 s13 (.inl ⟨_, e13⟩)
    refine ⟨_, rfl, mk_ev (fl := ["pick"]) (ys := [y1]) rfl (by show 1 ≤ 900; decide) fun pNoPick H14 s14 n14 e14 => ?_⟩
    have c14 := c13.trans s14
    have E14 : EL A H14 0 [pBadWord, pBadNumber, pBadCounts, pBadRule, pBadRules, pBadDoor, pUnfit, pBadDesk, pBadText, pNotLoose, pNamed, pFull, pNoPick] := EL.snoc E13 s14 (.inl ⟨_, e14⟩)
    refine ⟨_, rfl, mk_ev (fl := ["rules"]) (ys := [y1]) rfl (by show 1 ≤ 900; decide) fun pBroken H15 s15 n15 e15 => ?_⟩
    have c15 := c14.trans s15
    have E15 : EL A H15 0 [pBadWord, pBadNumber, pBadCounts, pBadRule, pBadRules, pBadDoor, pUnfit, pBadDesk, pBadText, pNotLoose, pNamed, pFull, pNoPick, pBroken] := EL.snoc E14 s15 (.inl ⟨_, e15⟩)
    refine ⟨by show 7 ≤ sizeLine; decide, fun da1 hda1 => ?_⟩
    have cba1 := Same.refl H8
    have cba1 := cba1.trans s9
    have cba1 := cba1.trans s10
    have cba1 := cba1.trans s11
    have cba1 := cba1.trans s12
    have cba1 := cba1.trans s13
    have cba1 := cba1.trans s14
    have cba1 := cba1.trans s15
    have s16 := Same.new (o := .lst [.ref pBadDesk, .ref pBadText, .ref pNotLoose, .ref pNamed, .ref pFull, .ref pNoPick, .ref pBroken]) hda1
    have e16 := upd_same (H := H15) (a := da1) (o := .lst [.ref pBadDesk, .ref pBadText, .ref pNotLoose, .ref pNamed, .ref pFull, .ref pNoPick, .ref pBroken])
    generalize upd H15 da1 (.lst [.ref pBadDesk, .ref pBadText, .ref pNotLoose, .ref pNamed, .ref pFull, .ref pNoPick, .ref pBroken]) = H16 at s16 e16 ⊢
    have c16 := c15.trans s16
    have E16 := E15.same s16
    refine ⟨da0, da1, _, _, rfl, rfl, s16 _ _ (cba1 _ _ e8), e16, by show 14 ≤ sizeLine; decide, fun qa1 hqa1 => ?_⟩
    have s17 := Same.new (o := .lst ([.ref pBadWord, .ref pBadNumber, .ref pBadCounts, .ref pBadRule, .ref pBadRules, .ref pBadDoor, .ref pUnfit] ++ [.ref pBadDesk, .ref pBadText, .ref pNotLoose, .ref pNamed, .ref pFull, .ref pNoPick, .ref pBroken])) hqa1
    have e17 := upd_same (H := H16) (a := qa1) (o := .lst ([.ref pBadWord, .ref pBadNumber, .ref pBadCounts, .ref pBadRule, .ref pBadRules, .ref pBadDoor, .ref pUnfit] ++ [.ref pBadDesk, .ref pBadText, .ref pNotLoose, .ref pNamed, .ref pFull, .ref pNoPick, .ref pBroken]))
    generalize upd H16 qa1 (.lst ([.ref pBadWord, .ref pBadNumber, .ref pBadCounts, .ref pBadRule, .ref pBadRules, .ref pBadDoor, .ref pUnfit] ++ [.ref pBadDesk, .ref pBadText, .ref pNotLoose, .ref pNamed, .ref pFull, .ref pNoPick, .ref pBroken])) = H17 at s17 e17 ⊢
    have e17 : H17 qa1 = some (.lst [.ref pBadWord, .ref pBadNumber, .ref pBadCounts, .ref pBadRule, .ref pBadRules, .ref pBadDoor, .ref pUnfit, .ref pBadDesk, .ref pBadText, .ref pNotLoose, .ref pNamed, .ref pFull, .ref pNoPick, .ref pBroken]) := e17
    have c17 := c16.trans s17
    have E17 := E16.same s17
    refine ⟨_, rfl, ?_⟩
    refine ⟨_, rfl, mk_ev (fl := ["at"]) (ys := [y1]) rfl (by show 1 ≤ 900; decide) fun pBadHistory H18 s18 n18 e18 => ?_⟩
    have c18 := c17.trans s18
    have E18 : EL A H18 0 [pBadWord, pBadNumber, pBadCounts, pBadRule, pBadRules, pBadDoor, pUnfit, pBadDesk, pBadText, pNotLoose, pNamed, pFull, pNoPick, pBroken, pBadHistory] := EL.snoc E17 s18 (.inl ⟨_, e18⟩)
    refine ⟨_, rfl, mk_ev (fl := ["standing"]) (ys := [y1]) rfl (by show 1 ≤ 900; decide) fun pBadStanding H19 s19 n19 e19 => ?_⟩
    have c19 := c18.trans s19
    have E19 : EL A H19 0 [pBadWord, pBadNumber, pBadCounts, pBadRule, pBadRules, pBadDoor, pUnfit, pBadDesk, pBadText, pNotLoose, pNamed, pFull, pNoPick, pBroken, pBadHistory, pBadStanding] := EL.snoc E18 s19 (.inl ⟨_, e19⟩)
    refine ⟨_, rfl, mk_ev (fl := ["at"]) (ys := [y1]) rfl (by show 1 ≤ 900; decide) fun pBadWay H20 s20 n20 e20 => ?_⟩
    have c20 := c19.trans s20
    have E20 : EL A H20 0 [pBadWord, pBadNumber, pBadCounts, pBadRule, pBadRules, pBadDoor, pUnfit, pBadDesk, pBadText, pNotLoose, pNamed, pFull, pNoPick, pBroken, pBadHistory, pBadStanding, pBadWay] := EL.snoc E19 s20 (.inl ⟨_, e20⟩)
    refine ⟨_, rfl, mk_ev (fl := ["standing"]) (ys := [y1]) rfl (by show 1 ≤ 900; decide) fun pNoWay H21 s21 n21 e21 => ?_⟩
    have c21 := c20.trans s21
    have E21 : EL A H21 0 [pBadWord, pBadNumber, pBadCounts, pBadRule, pBadRules, pBadDoor, pUnfit, pBadDesk, pBadText, pNotLoose, pNamed, pFull, pNoPick, pBroken, pBadHistory, pBadStanding, pBadWay, pNoWay] := EL.snoc E20 s21 (.inl ⟨_, e21⟩)
    refine fun pNotKept hpNotKept => ?_
    have s22 := Same.new (o := ExO (.ref (A 18)) pNotKept) hpNotKept
    have e22 := upd_same (H := H21) (a := pNotKept) (o := ExO (.ref (A 18)) pNotKept)
    generalize upd H21 pNotKept (ExO (.ref (A 18)) pNotKept) = H22 at s22 e22 ⊢
    have c22 := c21.trans s22
    have E22 : EL A H22 0 [pBadWord, pBadNumber, pBadCounts, pBadRule, pBadRules, pBadDoor, pUnfit, pBadDesk, pBadText, pNotLoose, pNamed, pFull, pNoPick, pBroken, pBadHistory, pBadStanding, pBadWay, pNoWay, pNotKept] := EL.snoc E21 s22 (.inr e22)
    refine ⟨_, rfl, mk_ev (fl := ["what"]) (ys := [y1]) rfl (by show 1 ≤ 900; decide) fun pTooMany H23 s23 n23 e23 => ?_⟩
    have c23 := c22.trans s23
    have E23 : EL A H23 0 [pBadWord, pBadNumber, pBadCounts, pBadRule, pBadRules, pBadDoor, pUnfit, pBadDesk, pBadText, pNotLoose, pNamed, pFull, pNoPick, pBroken, pBadHistory, pBadStanding, pBadWay, pNoWay, pNotKept, pTooMany] := EL.snoc E22 s23 (.inl ⟨_, e23⟩)
    refine ⟨by show 6 ≤ sizeLine; decide, fun da2 hda2 => ?_⟩
    have cba2 := Same.refl H17
    have cba2 := cba2.trans s18
    have cba2 := cba2.trans s19
    have cba2 := cba2.trans s20
    have cba2 := cba2.trans s21
    have cba2 := cba2.trans s22
    have cba2 := cba2.trans s23
    have s24 := Same.new (o := .lst [.ref pBadHistory, .ref pBadStanding, .ref pBadWay, .ref pNoWay, .ref pNotKept, .ref pTooMany]) hda2
    have e24 := upd_same (H := H23) (a := da2) (o := .lst [.ref pBadHistory, .ref pBadStanding, .ref pBadWay, .ref pNoWay, .ref pNotKept, .ref pTooMany])
    generalize upd H23 da2 (.lst [.ref pBadHistory, .ref pBadStanding, .ref pBadWay, .ref pNoWay, .ref pNotKept, .ref pTooMany]) = H24 at s24 e24 ⊢
    have c24 := c23.trans s24
    have E24 := E23.same s24
    refine ⟨qa1, da2, _, _, rfl, rfl, s24 _ _ (cba2 _ _ e17), e24, by show 20 ≤ sizeLine; decide, fun qa2 hqa2 => ?_⟩
    have s25 := Same.new (o := .lst ([.ref pBadWord, .ref pBadNumber, .ref pBadCounts, .ref pBadRule, .ref pBadRules, .ref pBadDoor, .ref pUnfit, .ref pBadDesk, .ref pBadText, .ref pNotLoose, .ref pNamed, .ref pFull, .ref pNoPick, .ref pBroken] ++ [.ref pBadHistory, .ref pBadStanding, .ref pBadWay, .ref pNoWay, .ref pNotKept, .ref pTooMany])) hqa2
    have e25 := upd_same (H := H24) (a := qa2) (o := .lst ([.ref pBadWord, .ref pBadNumber, .ref pBadCounts, .ref pBadRule, .ref pBadRules, .ref pBadDoor, .ref pUnfit, .ref pBadDesk, .ref pBadText, .ref pNotLoose, .ref pNamed, .ref pFull, .ref pNoPick, .ref pBroken] ++ [.ref pBadHistory, .ref pBadStanding, .ref pBadWay, .ref pNoWay, .ref pNotKept, .ref pTooMany]))
    generalize upd H24 qa2 (.lst ([.ref pBadWord, .ref pBadNumber, .ref pBadCounts, .ref pBadRule, .ref pBadRules, .ref pBadDoor, .ref pUnfit, .ref pBadDesk, .ref pBadText, .ref pNotLoose, .ref pNamed, .ref pFull, .ref pNoPick, .ref pBroken] ++ [.ref pBadHistory, .ref pBadStanding, .ref pBadWay, .ref pNoWay, .ref pNotKept, .ref pTooMany])) = H25 at s25 e25 ⊢
    have e25 : H25 qa2 = some (.lst [.ref pBadWord, .ref pBadNumber, .ref pBadCounts, .ref pBadRule, .ref pBadRules, .ref pBadDoor, .ref pUnfit, .ref pBadDesk, .ref pBadText, .ref pNotLoose, .ref pNamed, .ref pFull, .ref pNoPick, .ref pBroken, .ref pBadHistory, .ref pBadStanding, .ref pBadWay, .ref pNoWay, .ref pNotKept, .ref pTooMany]) := e25
    have c25 := c24.trans s25
    have E25 := E24.same s25
    have E20 : EL A H25 20 [] := fun i p e => by cases i <;> cases e
    refine ⟨_, rfl, mk_ev (fl := ["name"]) (ys := [y1]) rfl (by show 1 ≤ 900; decide) fun pNoDoor H26 s26 n26 e26 => ?_⟩
    have c26 := c25.trans s26
    have E26 : EL A H26 20 [pNoDoor] := EL.snoc E20 s26 (.inl ⟨_, e26⟩)
    refine ⟨_, rfl, mk_ev (fl := ["index"]) (ys := [y1]) rfl (by show 1 ≤ 900; decide) fun pNoBegin H27 s27 n27 e27 => ?_⟩
    have c27 := c26.trans s27
    have E27 : EL A H27 20 [pNoDoor, pNoBegin] := EL.snoc E26 s27 (.inl ⟨_, e27⟩)
    refine ⟨_, rfl, mk_ev (fl := ["owner"]) (ys := [y1]) rfl (by show 1 ≤ 900; decide) fun pNoOwner H28 s28 n28 e28 => ?_⟩
    have c28 := c27.trans s28
    have E28 : EL A H28 20 [pNoDoor, pNoBegin, pNoOwner] := EL.snoc E27 s28 (.inl ⟨_, e28⟩)
    refine ⟨_, rfl, mk_ev (fl := ["row"]) (ys := [y1]) rfl (by show 1 ≤ 900; decide) fun pNoRow H29 s29 n29 e29 => ?_⟩
    have c29 := c28.trans s29
    have E29 : EL A H29 20 [pNoDoor, pNoBegin, pNoOwner, pNoRow] := EL.snoc E28 s29 (.inl ⟨_, e29⟩)
    refine ⟨_, rfl, mk_ev (fl := ["rule"]) (ys := [y1]) rfl (by show 1 ≤ 900; decide) fun pNoRule H30 s30 n30 e30 => ?_⟩
    have c30 := c29.trans s30
    have E30 : EL A H30 20 [pNoDoor, pNoBegin, pNoOwner, pNoRow, pNoRule] := EL.snoc E29 s30 (.inl ⟨_, e30⟩)
    refine ⟨_, rfl, mk_ev (fl := ["word"]) (ys := [y1]) rfl (by show 1 ≤ 900; decide) fun pNoDivisor H31 s31 n31 e31 => ?_⟩
    have c31 := c30.trans s31
    have E31 : EL A H31 20 [pNoDoor, pNoBegin, pNoOwner, pNoRow, pNoRule, pNoDivisor] := EL.snoc E30 s31 (.inl ⟨_, e31⟩)
    refine ⟨_, rfl, mk_ev (fl := ["owner"]) (ys := [y1]) rfl (by show 1 ≤ 900; decide) fun pWaits H32 s32 n32 e32 => ?_⟩
    have c32 := c31.trans s32
    have E32 : EL A H32 20 [pNoDoor, pNoBegin, pNoOwner, pNoRow, pNoRule, pNoDivisor, pWaits] := EL.snoc E31 s32 (.inl ⟨_, e32⟩)
    refine ⟨by show 7 ≤ sizeLine; decide, fun db0 hdb0 => ?_⟩
    have cbb0 := Same.refl H25
    have cbb0 := cbb0.trans s26
    have cbb0 := cbb0.trans s27
    have cbb0 := cbb0.trans s28
    have cbb0 := cbb0.trans s29
    have cbb0 := cbb0.trans s30
    have cbb0 := cbb0.trans s31
    have cbb0 := cbb0.trans s32
    have s33 := Same.new (o := .lst [.ref pNoDoor, .ref pNoBegin, .ref pNoOwner, .ref pNoRow, .ref pNoRule, .ref pNoDivisor, .ref pWaits]) hdb0
    have e33 := upd_same (H := H32) (a := db0) (o := .lst [.ref pNoDoor, .ref pNoBegin, .ref pNoOwner, .ref pNoRow, .ref pNoRule, .ref pNoDivisor, .ref pWaits])
    generalize upd H32 db0 (.lst [.ref pNoDoor, .ref pNoBegin, .ref pNoOwner, .ref pNoRow, .ref pNoRule, .ref pNoDivisor, .ref pWaits]) = H33 at s33 e33 ⊢
    have c33 := c32.trans s33
    have E33 := E32.same s33
    refine ⟨_, rfl, ?_⟩
    refine ⟨_, rfl, _, rfl, _, rfl, mk_ev (fl := ["door", "line", "why"]) (ys := [y1, y2, y3]) rfl (by show 3 ≤ 900; decide) fun pRefused H34 s34 n34 e34 => ?_⟩
    have c34 := c33.trans s34
    have E34 : EL A H34 20 [pNoDoor, pNoBegin, pNoOwner, pNoRow, pNoRule, pNoDivisor, pWaits, pRefused] := EL.snoc E33 s34 (.inl ⟨_, e34⟩)
    refine ⟨_, rfl, mk_ev (fl := ["number"]) (ys := [y1]) rfl (by show 1 ≤ 900; decide) fun pOver H35 s35 n35 e35 => ?_⟩
    have c35 := c34.trans s35
    have E35 : EL A H35 20 [pNoDoor, pNoBegin, pNoOwner, pNoRow, pNoRule, pNoDivisor, pWaits, pRefused, pOver] := EL.snoc E34 s35 (.inl ⟨_, e35⟩)
    refine ⟨_, rfl, mk_ev (fl := ["owner"]) (ys := [y1]) rfl (by show 1 ≤ 900; decide) fun pBusy H36 s36 n36 e36 => ?_⟩
    have c36 := c35.trans s36
    have E36 : EL A H36 20 [pNoDoor, pNoBegin, pNoOwner, pNoRow, pNoRule, pNoDivisor, pWaits, pRefused, pOver, pBusy] := EL.snoc E35 s36 (.inl ⟨_, e36⟩)
    refine ⟨by show 3 ≤ sizeLine; decide, fun db1 hdb1 => ?_⟩
    have cbb1 := Same.refl H33
    have cbb1 := cbb1.trans s34
    have cbb1 := cbb1.trans s35
    have cbb1 := cbb1.trans s36
    have s37 := Same.new (o := .lst [.ref pRefused, .ref pOver, .ref pBusy]) hdb1
    have e37 := upd_same (H := H36) (a := db1) (o := .lst [.ref pRefused, .ref pOver, .ref pBusy])
    generalize upd H36 db1 (.lst [.ref pRefused, .ref pOver, .ref pBusy]) = H37 at s37 e37 ⊢
    have c37 := c36.trans s37
    have E37 := E36.same s37
    refine ⟨db0, db1, _, _, rfl, rfl, s37 _ _ (cbb1 _ _ e33), e37, by show 10 ≤ sizeLine; decide, fun qb1 hqb1 => ?_⟩
    have s38 := Same.new (o := .lst ([.ref pNoDoor, .ref pNoBegin, .ref pNoOwner, .ref pNoRow, .ref pNoRule, .ref pNoDivisor, .ref pWaits] ++ [.ref pRefused, .ref pOver, .ref pBusy])) hqb1
    have e38 := upd_same (H := H37) (a := qb1) (o := .lst ([.ref pNoDoor, .ref pNoBegin, .ref pNoOwner, .ref pNoRow, .ref pNoRule, .ref pNoDivisor, .ref pWaits] ++ [.ref pRefused, .ref pOver, .ref pBusy]))
    generalize upd H37 qb1 (.lst ([.ref pNoDoor, .ref pNoBegin, .ref pNoOwner, .ref pNoRow, .ref pNoRule, .ref pNoDivisor, .ref pWaits] ++ [.ref pRefused, .ref pOver, .ref pBusy])) = H38 at s38 e38 ⊢
    have e38 : H38 qb1 = some (.lst [.ref pNoDoor, .ref pNoBegin, .ref pNoOwner, .ref pNoRow, .ref pNoRule, .ref pNoDivisor, .ref pWaits, .ref pRefused, .ref pOver, .ref pBusy]) := e38
    have c38 := c37.trans s38
    have E38 := E37.same s38
    have cm : Same H25 H25 := Same.refl _
    have cm := cm.trans s26
    have cm := cm.trans s27
    have cm := cm.trans s28
    have cm := cm.trans s29
    have cm := cm.trans s30
    have cm := cm.trans s31
    have cm := cm.trans s32
    have cm := cm.trans s33
    have cm := cm.trans s34
    have cm := cm.trans s35
    have cm := cm.trans s36
    have cm := cm.trans s37
    have cm := cm.trans s38
    have EA := E25.same cm
    have LA := cm _ _ e25
    have EB := E38
    have LB := e38
    have h1 := h1.same c38
    have h2 := h2.same c38
    have h3 := h3.same c38
    have LA : H38 qa2 = some (.lst ([pBadWord, pBadNumber, pBadCounts, pBadRule, pBadRules, pBadDoor, pUnfit, pBadDesk, pBadText, pNotLoose, pNamed, pFull, pNoPick, pBroken, pBadHistory, pBadStanding, pBadWay, pNoWay, pNotKept, pTooMany].map V.ref)) := LA
    have LB : H38 qb1 = some (.lst ([pNoDoor, pNoBegin, pNoOwner, pNoRow, pNoRule, pNoDivisor, pWaits, pRefused, pOver, pBusy].map V.ref)) := LB
    have lenA : [pBadWord, pBadNumber, pBadCounts, pBadRule, pBadRules, pBadDoor, pUnfit, pBadDesk, pBadText, pNotLoose, pNamed, pFull, pNoPick, pBroken, pBadHistory, pBadStanding, pBadWay, pNoWay, pNotKept, pTooMany].length = 20 := rfl
    have lenB : [pNoDoor, pNoBegin, pNoOwner, pNoRow, pNoRule, pNoDivisor, pWaits, pRefused, pOver, pBusy].length = 10 := rfl
    generalize [pBadWord, pBadNumber, pBadCounts, pBadRule, pBadRules, pBadDoor, pUnfit, pBadDesk, pBadText, pNotLoose, pNamed, pFull, pNoPick, pBroken, pBadHistory, pBadStanding, pBadWay, pNoWay, pNotKept, pTooMany] = psA at EA LA lenA
    generalize [pNoDoor, pNoBegin, pNoOwner, pNoRow, pNoRule, pNoDivisor, pWaits, pRefused, pOver, pBusy] = psB at EB LB lenB
    clear s1 s2 s3 s4 s5 s6 s7 s8 s9 s10 s11 s12 s13 s14 s15 s16 s17 s18 s19 s20 s21 s22 s23 s24 s25 s26 s27 s28 s29 s30 s31 s32 s33 s34 s35 s36 s37 s38
    refine ⟨20, rfl, by decide, by decide, ?_⟩
    refine for_range (lo := 0) (n := 20) (fun i σ H' => Same H38 H' ∧ ∃ x7, σ = [some (.ref sc), some (.ref p), some y1, some y2, some y3, some (.ref qa2), some (.ref qb1), x7]) ⟨Same.refl _, _, rfl⟩ ?_ ?_
    · rintro i σ H' hi ⟨s', x7, rfl⟩
      obtain ⟨pe, hat, hA⟩ := EA.get (i := i) (by rw [lenA]; exact hi)
      refine ⟨_, rfl, _, rfl, qa2, _, _, .ref pe, rfl, rfl, SqL.of (s' _ _ LA), hat, pe, 0 + i, rfl, by omega, hA.same s', fun r1 G1 t1 z1 => ?_⟩
      refine ⟨_, rfl, i, 20, by rw [Int.zero_add]; rfl, by decide, fun r2 G2 t2 z2 => ?_⟩
      rw [blL_congr (f' := fun j => decide (j = i)) (n := 20) (fun j hj => decide_eq_decide.mpr (by omega))] at z1
      refine ⟨_, _, bl_dp (t2 _ _ z1), bl_dp z2, blD_shaped, blD_shaped, _, rfl, ?_⟩
      rw [eqv_refl' blD_shaped]
      refine iteF ?_
      have u2 := (s'.trans t1).trans t2
      refine ⟨_, rfl, _, rfl, qa2, _, _, .ref pe, rfl, rfl, SqL.of (u2 _ _ LA), hat, pe, 0 + i, rfl, by omega, hA.same u2, fun r3 G3 t3 z3 => ?_⟩
      refine ⟨r3, _, rfl, .inl (SqL.of z3), rfl, bl_flat, _, rfl, ?_⟩
      rw [inV_no (fun j hj => decide_eq_false (by omega))]
      refine iteF ?_
      have u3 := u2.trans t3
      refine ⟨_, rfl, _, rfl, qa2, _, _, .ref pe, rfl, rfl, SqL.of (u3 _ _ LA), hat, pe, 0 + i, rfl, by omega, hA.same u3, fun r4 G4 t4 z4 => ?_⟩
      refine ⟨by show 5 ≤ sizeLine; decide, fun r5 hr5 => ?_⟩
      have t5 := Same.new (o := .lst [.bl true, .bl true, .bl false, .bl false, .bl false]) hr5
      have z5 := upd_same (H := G4) (a := r5) (o := .lst [.bl true, .bl true, .bl false, .bl false, .bl false])
      have eb : blL (baseF (0 + i)) 5 = [.bl true, .bl true, .bl false, .bl false, .bl false] := by
        show [V.bl (baseF (0 + i) 0), V.bl (baseF (0 + i) 1), V.bl (baseF (0 + i) 2), V.bl (baseF (0 + i) 3), V.bl (baseF (0 + i) 4)] = _
        simp only [baseF]
        simp (disch := omega) only [decide_eq_true_eq, decide_eq_true, decide_eq_false]
        all_goals simp
        all_goals omega
      rw [← eb] at z5 t5
      rw [← eb]
      refine ⟨_, _, bl_dp (t5 _ _ z4), bl_dp z5, blD_shaped, blD_shaped, _, rfl, ?_⟩
      rw [eqv_refl' blD_shaped]
      exact iteF ⟨(u3.trans t4).trans t5, _, rfl⟩
    rintro σ H' ⟨s', x7, rfl⟩
    have EB := EB.same s'
    have LB := s' _ _ LB
    have h1 := h1.same s'
    have h2 := h2.same s'
    have h3 := h3.same s'
    clear LA EA s' 
    generalize H' = HB at EB LB h1 h2 h3 ⊢
    refine ⟨10, rfl, by decide, by decide, ?_⟩
    refine for_range (lo := 0) (n := 10) (fun i σ H' => Same HB H' ∧ ∃ x7, σ = [some (.ref sc), some (.ref p), some y1, some y2, some y3, some (.ref qa2), some (.ref qb1), x7]) ⟨Same.refl _, _, rfl⟩ ?_ ?_
    · rintro i σ H' hi ⟨s', x7, rfl⟩
      obtain ⟨pe, hat, hA⟩ := EB.get (i := i) (by rw [lenB]; exact hi)
      refine ⟨_, rfl, _, rfl, qb1, _, _, .ref pe, rfl, rfl, SqL.of (s' _ _ LB), hat, pe, 20 + i, rfl, by omega, hA.same s', fun r1 G1 t1 z1 => ?_⟩
      refine ⟨_, rfl, i, 10, by rw [Int.zero_add]; rfl, by decide, fun r2 G2 t2 z2 => ?_⟩
      rw [blL_congr (f' := fun j => decide (j = i)) (n := 10) (fun j hj => decide_eq_decide.mpr (by omega))] at z1
      refine ⟨_, _, bl_dp (t2 _ _ z1), bl_dp z2, blD_shaped, blD_shaped, _, rfl, ?_⟩
      rw [eqv_refl' blD_shaped]
      refine iteF ?_
      have u2 := (s'.trans t1).trans t2
      refine ⟨_, rfl, _, rfl, qb1, _, _, .ref pe, rfl, rfl, SqL.of (u2 _ _ LB), hat, pe, 20 + i, rfl, by omega, hA.same u2, fun r3 G3 t3 z3 => ?_⟩
      refine ⟨r3, _, rfl, .inl (SqL.of z3), rfl, bl_flat, _, rfl, ?_⟩
      rw [inV_no (fun j hj => decide_eq_false (by omega))]
      refine iteF ?_
      have u3 := u2.trans t3
      refine ⟨_, rfl, _, rfl, qb1, _, _, .ref pe, rfl, rfl, SqL.of (u3 _ _ LB), hat, pe, 20 + i, rfl, by omega, hA.same u3, fun r4 G4 t4 z4 => ?_⟩
      have ei : (0 : Int) + (i : Int) = (i : Int) := Int.zero_add _
      refine ⟨_, rfl, _, _, rfl, rfl, _, rfl, rfl, _, rfl, _, _, rfl, rfl, ?_⟩
      refine ⟨by show 5 ≤ sizeLine; decide, fun r5 hr5 => ?_⟩
      have t5 := Same.new (o := .lst [.bl false, .bl false, .bl (decide ((0 : Int) + (i : Int) < 5)), .bl (decide (V.int ((0 : Int) + (i : Int)) = V.int 5)), .bl (decide ((0 : Int) + (i : Int) > 5))]) hr5
      have z5 := upd_same (H := G4) (a := r5) (o := .lst [.bl false, .bl false, .bl (decide ((0 : Int) + (i : Int) < 5)), .bl (decide (V.int ((0 : Int) + (i : Int)) = V.int 5)), .bl (decide ((0 : Int) + (i : Int) > 5))])
      have eb : blL (baseF (20 + i)) 5 = [.bl false, .bl false, .bl (decide ((0 : Int) + (i : Int) < 5)), .bl (decide (V.int ((0 : Int) + (i : Int)) = V.int 5)), .bl (decide ((0 : Int) + (i : Int) > 5))] := by
        show [V.bl (baseF (20 + i) 0), V.bl (baseF (20 + i) 1), V.bl (baseF (20 + i) 2), V.bl (baseF (20 + i) 3), V.bl (baseF (20 + i) 4)] = _
        simp only [baseF]
        have f1 : decide ((0 : Int) + (i : Int) < 5) = decide (i < 5) := decide_eq_decide.mpr (by omega)
        have f2 : decide (V.int ((0 : Int) + (i : Int)) = V.int 5) = decide (i = 5) := decide_eq_decide.mpr ⟨fun z => by have := V.int.inj z; omega, fun z => by subst z; rfl⟩
        have f3 : decide ((0 : Int) + (i : Int) > 5) = decide (5 < i) := decide_eq_decide.mpr (by omega)
        rw [f1, f2, f3]
        have a1 : decide (20 + i < 20) = false := decide_eq_false (by omega)
        have a2 : decide (20 ≤ 20 + i ∧ 20 + i < 25) = decide (i < 5) := decide_eq_decide.mpr (by omega)
        have a3 : decide (20 + i = 25) = decide (i = 5) := decide_eq_decide.mpr (by omega)
        have a4 : decide (25 < 20 + i) = decide (5 < i) := decide_eq_decide.mpr (by omega)
        rw [a1, a2, a3, a4]
        rfl
      rw [← eb] at z5 t5
      rw [← eb]
      refine ⟨_, _, bl_dp (t5 _ _ z4), bl_dp z5, blD_shaped, blD_shaped, _, rfl, ?_⟩
      rw [eqv_refl' blD_shaped]
      exact iteF ⟨(u3.trans t4).trans t5, _, rfl⟩
    rintro σ H' ⟨s', x7, rfl⟩
    exact ⟨_, rfl, _, rfl, _, rfl, y1, y2, y3, d1, d2, d3, b1, b2, b3, rfl, h1.same s', h2.same s', h3.same s', fun H9 => kQ H9⟩
end
end Cs

set_option Elab.async false
set_option linter.all false
set_option maxRecDepth 100000
set_option maxHeartbeats 4000000
/-! The head by one kernel run: what the top has left, told by a list of tests and by the defs' objects. -/
namespace Cs
open PySem PySem.Spec PyProof.Rows L2
abbrev Fr := PySem.W.Frag
/-- what an object of the top names (nothing of codes, of the classes above) -/
def refsK (o : Obj) : List Addr := match o.data with
  | .dict es _ => es.toList.flatMap fun e => He.refV e.val
  | .func fd => He.refV fd.code ++ (He.refV fd.defaults ++ fd.closure.map (·.2))
  | .cls cd => [cd.ns]
  | .seq its _ => its.toList.flatMap He.refV
  | .fields vs => (match o.cls with
    | .type t => if t = "code" then [] else vs.toList.flatMap He.refV
    | _ => [])
  | _ => []
def stepK (g : Addr → Option Obj) (as : List Addr) : List Addr := as.flatMap fun a => match g a with
  | some o => refsK o
  | none => []
def asK (g : Addr → Option Obj) : Nat → List Addr → List Addr
  | 0, as => as
  | n + 1, as => as ++ asK g n (stepK g as)
def KG (n : Nat) (g : Addr → Option Obj) : Fr := He.frG g (cStatics :: asK g n [mainGlobals])
theorem KG_in {n : Nat} {h : Heap} : (KG n h.get?).In h := He.frG_in
abbrev FnT : Type := Option (Str × Str × Arguments × FuncBody × Scope × Addr × List Str × Addr)
def fnT (K : Fr) (a : Addr) : FnT := match K.lookup a with
  | some ⟨_, _, .func fd, _⟩ => some (fd.name, fd.qualname, fd.params, fd.body, fd.scope, fd.globals, fd.closure.map (·.1), fd.builtins)
  | _ => none
/-- a def: its address by the top's names, its names, its statement, the names of its cells -/
structure FnA where
  at_ : Fr → Addr
  name : Str
  qual : Str
  st : Stmt
  cl : List Str
  df : Bool := false
def FnA.val (d : FnA) : FnT := some (d.name, d.qual, defArgs d.st, .stmts (defBody d.st), defScope d.st, mainGlobals, d.cl, builtinsNs)
def noneB : Value → Bool
  | .none => true
  | _ => false
theorem noneB_ok {v : Value} (h : noneB v = true) : v = .none := by
  cases v with
  | none => rfl
  | _ => cases h
/-- no defaults (unless df); its code object -/
def fnB (K : Fr) (a : Addr) (q : Str) (df : Bool) : Bool := match K.lookup a with
  | some ⟨_, _, .func fd, _⟩ => (df || noneB fd.defaults) && PySem.W.codeIn K fd.code q
  | _ => false
abbrev AlK : Type := Bool × List FnT
def obsK (cks : List (Fr → Bool)) (fns : List FnA) (K : Fr) : AlK := ((cks.all fun f => f K) && fns.all fun d => fnB K (d.at_ K) d.qual d.df, fns.map fun d => fnT K (d.at_ K))
def valK (fns : List FnA) : AlK := (true, fns.map FnA.val)
def SaysK (cks : List (Fr → Bool)) (fns : List FnA) (K : Fr) : Prop := obsK cks fns K = valK fns
def obsKG (n : Nat) (cks : List (Fr → Bool)) (fns : List FnA) (g : Addr → Option Obj) : AlK := obsK cks fns (KG n g)
def hookK (n : Nat) (cks : List (Fr → Bool)) (fns : List FnA) : PySem.W.Hook where
  α := AlK
  obs := fun s => obsKG n cks fns s.heap.get?
  val := fun _ => valK fns
  says := fun _ h => ∃ K : Fr, K.In h ∧ SaysK cks fns K
  of := fun _ _ e => ⟨_, KG_in, e⟩
  keeps := fun _ _ _ ⟨K, hK, c⟩ k => ⟨K, PySem.W.Frag.In.keeps hK k, c⟩
theorem obsKG_eq {n : Nat} {cks : List (Fr → Bool)} {fns : List FnA} {g : Addr → Option Obj} {s : Shared} (h : ∀ a, g a = s.heap.get? a) : obsKG n cks fns g = (hookK n cks fns).obs s := by
  have e : g = s.heap.get? := funext h
  rw [e] <;> rfl
section
variable {cks : List (Fr → Bool)} {fns : List FnA} {K : Fr}
theorem SaysK.ck (c : SaysK cks fns K) (i : Nat) {f : Fr → Bool} (h : cks[i]? = some f := by rfl) : f K = true := by
  have c1 := (Bool.and_eq_true_iff.mp (show ((cks.all fun f => f K) && fns.all fun d => fnB K (d.at_ K) d.qual d.df) = true from congrArg (fun z : AlK => z.1) c)).1
  exact List.all_eq_true.mp c1 f (List.mem_of_getElem? h)
theorem SaysK.fb (c : SaysK cks fns K) (i : Nat) {d : FnA} (h : fns[i]? = some d) : fnB K (d.at_ K) d.qual d.df = true := by
  have c1 := (Bool.and_eq_true_iff.mp (show ((cks.all fun f => f K) && fns.all fun d => fnB K (d.at_ K) d.qual d.df) = true from congrArg (fun z : AlK => z.1) c)).2
  exact List.all_eq_true.mp c1 d (List.mem_of_getElem? h)
theorem SaysK.ft (c : SaysK cks fns K) (i : Nat) {d : FnA} (h : fns[i]? = some d) : fnT K (d.at_ K) = d.val := by
  have e : (fns.map fun d => fnT K (d.at_ K)) = fns.map FnA.val := congrArg (fun z : AlK => z.2) c
  have e2 : (fns.map fun d => fnT K (d.at_ K))[i]? = (fns.map FnA.val)[i]? := by rw [e]
  rw [List.getElem?_map, List.getElem?_map, h] at e2
  exact Option.some.inj e2
theorem fn_gen {d : FnA} (e : fnT K (d.at_ K) = d.val) (c : fnB K (d.at_ K) d.qual d.df = true) : ∃ oc od osl cl dV kV doc pm an cdv ct, cl.map (·.1) = d.cl ∧ K.lookup (d.at_ K) = some ⟨oc, od, .func (PySem.W.fnX d.name d.qual (defArgs d.st) (defBody d.st) (defScope d.st) cl dV kV doc pm an cdv ct), osl⟩ ∧ PySem.W.codeIn K cdv d.qual = true ∧ (d.df = false → dV = .none) := by
  unfold fnT at e
  unfold fnB at c
  cases q : K.lookup (d.at_ K) with
  | none =>
    rw [q] at c
    cases c
  | some o =>
    obtain ⟨oc, od, dt, osl⟩ := o
    rw [q] at c e
    cases dt with
    | func fd =>
      obtain ⟨n1, n2, n3, n4, n5, n6, n7, n8, n9, n10, n11, n12, n13, n14, n15⟩ := fd
      have e2 : (some (n1, n2, n3, n4, n5, n6, n7.map (·.1), n15) : FnT) = some (d.name, d.qual, defArgs d.st, .stmts (defBody d.st), defScope d.st, mainGlobals, d.cl, builtinsNs) := e
      simp only [Option.some.injEq, Prod.mk.injEq] at e2
      obtain ⟨h1, h2, h3, h4, h5, h6, h7, h8⟩ := e2
      obtain ⟨c1, c2⟩ := Bool.and_eq_true_iff.mp (show ((d.df || noneB n8) && PySem.W.codeIn K n13 d.qual) = true from c)
      subst h1 h2 h3 h4 h5 h6 h8
      refine ⟨oc, od, osl, n7, n8, n9, n10, n11, n12, n13, n14, h7, rfl, c2, fun h => ?_⟩
      rw [h, Bool.false_or] at c1
      exact noneB_ok c1
    | _ => cases c
theorem fn_any {d : FnA} (hd : d.df = false) (e : fnT K (d.at_ K) = d.val) (c : fnB K (d.at_ K) d.qual d.df = true) : ∃ oc od osl cl kV doc pm an cdv ct, cl.map (·.1) = d.cl ∧ K.lookup (d.at_ K) = some ⟨oc, od, .func (PySem.W.fnX d.name d.qual (defArgs d.st) (defBody d.st) (defScope d.st) cl .none kV doc pm an cdv ct), osl⟩ ∧ PySem.W.codeIn K cdv d.qual = true := by
  obtain ⟨oc, od, osl, cl, dV, kV, doc, pm, an, cdv, ct, e1, l, k, z⟩ := fn_gen e c
  obtain rfl := z hd
  exact ⟨oc, od, osl, cl, kV, doc, pm, an, cdv, ct, e1, l, k⟩
theorem SaysK.fn (c : SaysK cks fns K) (i : Nat) {d : FnA} (h : fns[i]? = some d) (hc : d.cl = []) (hd : d.df = false := by rfl) : ∃ oc od osl kV doc pm an cdv ct, K.lookup (d.at_ K) = some ⟨oc, od, .func (PySem.W.fnOf d.name d.qual (defArgs d.st) (defBody d.st) (defScope d.st) .none kV doc pm an cdv ct), osl⟩ ∧ PySem.W.codeIn K cdv d.qual = true := by
  obtain ⟨oc, od, osl, cl, kV, doc, pm, an, cdv, ct, e, l, k⟩ := fn_any hd (c.ft i h) (c.fb i h)
  rw [hc] at e
  obtain rfl := List.map_eq_nil_iff.mp e
  exact ⟨oc, od, osl, kV, doc, pm, an, cdv, ct, l, k⟩
/-- a def with defaults -/
theorem SaysK.fnD (c : SaysK cks fns K) (i : Nat) {d : FnA} (h : fns[i]? = some d) (hc : d.cl = []) : ∃ oc od osl dV kV doc pm an cdv ct, K.lookup (d.at_ K) = some ⟨oc, od, .func (PySem.W.fnOf d.name d.qual (defArgs d.st) (defBody d.st) (defScope d.st) dV kV doc pm an cdv ct), osl⟩ ∧ PySem.W.codeIn K cdv d.qual = true := by
  obtain ⟨oc, od, osl, cl, dV, kV, doc, pm, an, cdv, ct, e, l, k, _⟩ := fn_gen (c.ft i h) (c.fb i h)
  rw [hc] at e
  obtain rfl := List.map_eq_nil_iff.mp e
  exact ⟨oc, od, osl, dV, kV, doc, pm, an, cdv, ct, l, k⟩
def dflL (K : Fr) (a : Addr) : Option (List Value) := match K.lookup a with
  | some ⟨_, _, .func fd, _⟩ => (match fd.defaults with
    | .ref T => (match K.lookup T with
      | some ⟨_, _, .seq its _, _⟩ => some its.toList
      | _ => none)
    | _ => none)
  | _ => none
def dflA (K : Fr) (a : Addr) : Addr := match dflL K a with
  | some (.ref e :: _) => e
  | _ => 0
def relB : V → Value → Bool
  | .ref a, .ref b => decide (a = b)
  | .non, .none => true
  | _, _ => false
theorem relB_ok {x : V} {u : Value} (h : relB x u = true) : RelV x u := by
  unfold relB at h
  split at h
  · rw [of_decide_eq_true h]; rfl
  · rfl
  · cases h
def relsB : List V → List Value → Bool
  | [], [] => true
  | x :: xs, u :: us => relB x u && relsB xs us
  | _, _ => false
theorem relsB_ok : ∀ {xs : List V} {us : List Value}, relsB xs us = true → Vals xs us
  | [], [], _ => .nil
  | x :: xs, u :: us, h => by
    obtain ⟨h1, h2⟩ := Bool.and_eq_true_iff.mp (show (relB x u && relsB xs us) = true from h)
    exact .cons (relB_ok h1) (relsB_ok h2)
  | [], _ :: _, h => by cases h
  | _ :: _, [], h => by cases h
def dflB (K : Fr) (a : Addr) (ds : List V) : Bool := !ds.isEmpty && match dflL K a with
  | some us => relsB ds us
  | none => false
theorem dflB_ok {a : Addr} {ds : List V} {oc : Value} {od : Option Addr} {fd : FuncData} {sl : Array (Option Value)} (h : dflB K a ds = true) (l : K.lookup a = some ⟨oc, od, .func fd, sl⟩) : DflV K fd.defaults ds := by
  obtain ⟨h1, h2⟩ := Bool.and_eq_true_iff.mp h
  unfold dflL at h2
  rw [l] at h2
  dsimp only at h2
  refine .inr ⟨(fun e => by rw [e] at h1; cases h1), ?_⟩
  generalize fd.defaults = dv at h2
  split at h2
  · rename_i us eu
    split at eu
    · rename_i T
      split at eu
      · rename_i o1 o2 its n o3 eo
        cases eu
        exact ⟨T, _, its.toList, n, rfl, eo, by rw [Array.toArray_toList], relsB_ok h2⟩
      · cases eu
    · cases eu
  · cases h2
/-- the empty tuple -/
def nilB (K : Fr) (e : Addr) : Bool := match K.lookup e with
  | some ⟨.type t, _, .seq its _, _⟩ => decide (t = "tuple") && its.toList.isEmpty
  | _ => false
theorem nilB_ok {e : Addr} (h : nilB K e = true) : ∀ H : Hp, SqT K H e [] := fun H => by
  unfold nilB at h
  split at h
  · rename_i t dd its n sl l
    obtain ⟨h1, h2⟩ := Bool.and_eq_true_iff.mp h
    obtain rfl := of_decide_eq_true h1
    have e2 : its.toList = [] := List.isEmpty_iff.mp h2
    have e3 : its.size = 0 := by rw [← Array.length_toList, e2]; rfl
    exact .inr ⟨_, its, n, l, rfl, rfl, by rw [e3]; exact Nat.zero_le _, by rw [e2]; exact .nil⟩
  · cases h
/-- the cell of the class, the file of the code -/
def cellB (K : Fr) (cl : List (Str × Addr)) (C : Addr) : Bool := match cl with
  | [(_, cc)] => (match K.lookup cc with
    | some ⟨_, _, .cell (some (.ref D)), _⟩ => decide (D = C)
    | _ => false)
  | _ => false
def fileB (K : Fr) (cdv : Value) (file : Str) : Bool := match cdv with
  | .ref cd => (match K.lookup cd with
    | some ⟨_, _, .fields vs, _⟩ => (match (vs[2]? : Option Value) with
      | some (.str z _) => file == z
      | _ => false)
    | _ => false)
  | _ => false
theorem cellB_ok {z : Str} {cc C : Addr} (h : cellB K [(z, cc)] C = true) : ∃ cl cld csl, K.lookup cc = some ⟨cl, cld, .cell (some (.ref C)), csl⟩ := by
  unfold cellB at h
  dsimp only at h
  split at h
  · rename_i hl
    rw [of_decide_eq_true h] at hl
    exact ⟨_, _, _, hl⟩
  · cases h
theorem fileB_ok {cdv : Value} {file : Str} (h : fileB K cdv file = true) : ∃ cd, cdv = .ref cd ∧ ∃ ccl cdd vs ccs fl tf, K.lookup cd = some ⟨ccl, cdd, .fields vs, ccs⟩ ∧ vs[2]? = some (.str fl tf) ∧ (file == fl) = true := by
  unfold fileB at h
  split at h
  · rename_i cd
    split at h
    · rename_i hl
      split at h
      · rename_i hv
        exact ⟨cd, rfl, _, _, _, _, _, _, hl, hv, h⟩
      · cases h
    · cases h
  · cases h
def supB (K : Fr) (a C : Addr) (file : Str) : Bool := match K.lookup a with
  | some ⟨_, _, .func fd, _⟩ => cellB K fd.closure C && fileB K fd.code file
  | _ => false
theorem SaysK.fs (c : SaysK cks fns K) (i : Nat) {d : FnA} {C : Addr} {file : Str} (h : fns[i]? = some d) (hc : d.cl = ([(("__class__" : String) : Str)] : List Str)) (hs : supB K (d.at_ K) C file = true) (hd : d.df = false := by rfl) : ∃ oc od osl kV doc pm an cda ct cc, K.lookup (d.at_ K) = some ⟨oc, od, .func (PySem.W.ksFn d.name d.qual (defArgs d.st) (defBody d.st) (defScope d.st) .none kV doc pm an (.ref cda) ct cc), osl⟩ ∧ PySem.W.codeIn K (.ref cda) d.qual = true ∧
    (∃ cl cld csl, K.lookup cc = some ⟨cl, cld, .cell (some (.ref C)), csl⟩) ∧ ∃ ccl cdd vs ccs fl tf, K.lookup cda = some ⟨ccl, cdd, .fields vs, ccs⟩ ∧ vs[2]? = some (.str fl tf) ∧ (file == fl) = true := by
  obtain ⟨oc, od, osl, cl, kV, doc, pm, an, cdv, ct, e, l, k⟩ := fn_any hd (c.ft i h) (c.fb i h)
  rw [hc] at e
  match cl, e with
  | [(z, cc)], e =>
    obtain rfl : z = "__class__" := (List.cons.inj e).1
    unfold supB at hs
    rw [l] at hs
    obtain ⟨h1, h2⟩ := Bool.and_eq_true_iff.mp (show (cellB K [(("__class__" : Str), cc)] C && fileB K cdv file) = true from hs)
    obtain ⟨cd, rfl, h3⟩ := fileB_ok h2
    exact ⟨oc, od, osl, kV, doc, pm, an, cd, ct, cc, l, k, cellB_ok h1, h3⟩
end
/-! ### own errors, classmethods, texts and tuples of the top -/
def exoB (K : Fr) (C : Addr) : Bool := match K.lookup C with
  | some ⟨.type t, _, .cls cd, sl⟩ => decide (t = "type") && (match cd.mro, sl.toList with
    | .ref D :: bm, [_, _, _, _, some (.builtin n), _] => decide (D = C) && (decide (n = "ValueError.__new__") && (cd.hasDict && (!cd.hasDel && PySem.HandSPX.refsVE bm)))
    | _, _ => false)
  | _ => false
theorem exoB_ok {K : Fr} {C : Addr} (h : exoB K C = true) : ∃ nm q N bs bm sn sub ab col dd k0 k1 k2 k3 k5, K.lookup C = some (excClassObj nm q C N bs bm true sn sub ab col dd k0 k1 k2 k3 k5 "ValueError.__new__") ∧ PySem.HandSPX.refsVE bm = true := by
  unfold exoB at h
  split at h
  · rename_i t dd cd sl hl
    obtain ⟨h1, h2⟩ := Bool.and_eq_true_iff.mp h
    obtain rfl := of_decide_eq_true h1
    split at h2
    · rename_i D bm k0 k1 k2 k3 n k5 hm hs
      obtain ⟨h3, h4⟩ := Bool.and_eq_true_iff.mp h2
      obtain ⟨h5, h6⟩ := Bool.and_eq_true_iff.mp h4
      obtain ⟨h7, h8⟩ := Bool.and_eq_true_iff.mp h6
      obtain ⟨h9, h10⟩ := Bool.and_eq_true_iff.mp h8
      obtain rfl := of_decide_eq_true h3
      obtain rfl := of_decide_eq_true h5
      obtain ⟨nm, bs, mro, ns, qn, hd, sn, sb, ab, col, del⟩ := cd
      have hm2 : mro = .ref D :: bm := hm
      have h72 : hd = true := h7
      have h92 : (!del) = true := h9
      clear hm h7 h9 h6 h8 h4 h2 h
      subst hm2 h72
      cases del with
      | true => cases h92
      | false =>
      have es : sl = #[k0, k1, k2, k3, some (.builtin "ValueError.__new__"), k5] := by
        rw [← Array.toList_inj, hs]
      subst es
      exact ⟨nm, qn, ns, bs, bm, sn, sb, ab, col, dd, k0, k1, k2, k3, k5, hl, h10⟩
    · cases h2
  · cases h
/-- a text of the top -/
def strB (K : Fr) (x z : Str) : Bool := match PySem.W.nsIn K mainGlobals x with
  | some (some (.str y _)) => decide (y = z)
  | _ => false
theorem strB_ok {K : Fr} {x z : Str} (h : strB K x z = true) : ∃ tk, PySem.W.nsIn K mainGlobals x = some (some (.str z tk)) := by
  unfold strB at h
  split at h
  · rename_i y tk e
    rw [of_decide_eq_true h] at e
    exact ⟨tk, e⟩
  · cases h
/-- a classmethod of the class: the descriptor, the def behind it -/
def cmQ (K : Fr) (C : Addr) (m : Str) : Addr := match PySem.W.findIn K (.ref C) m with
  | some (some (.ref q)) => q
  | _ => 0
def cmF (K : Fr) (C : Addr) (m : Str) (T : String) : Addr := match PySem.W.recIn K (cmQ K C m) T with
  | some (.ref f :: _) => f
  | _ => 0
def cmR (K : Fr) (C : Addr) (m : Str) (T : String) : List Value := match PySem.W.recIn K (cmQ K C m) T with
  | some (_ :: r) => r
  | _ => []
def cmB (K : Fr) (C : Addr) (m : Str) : Bool := match PySem.W.findCls K (.ref C) (.type "type") m with
  | some (.get a b c d) => decide (a = .builtin "classmethod.__get__") && (decide (b = .ref (cmQ K C m)) && (decide (c = .none) && decide (d = .ref C)))
  | _ => false
theorem cmB_ok {K : Fr} {C : Addr} {m : Str} (h : cmB K C m = true) : PySem.W.findCls K (.ref C) (.type "type") m = some (.get (.builtin "classmethod.__get__") (.ref (cmQ K C m)) .none (.ref C)) := by
  unfold cmB at h
  split at h
  · rename_i a b c d e
    obtain ⟨h1, h2⟩ := Bool.and_eq_true_iff.mp h
    obtain ⟨h3, h4⟩ := Bool.and_eq_true_iff.mp h2
    obtain ⟨h5, h6⟩ := Bool.and_eq_true_iff.mp h4
    rw [of_decide_eq_true h1, of_decide_eq_true h3, of_decide_eq_true h5, of_decide_eq_true h6] at e
    exact e
  · cases h
theorem tup_at {K : Fr} {x : Str} {zs : List Str} (h : He.tupB K x (zs.map He.Dv.str) = true) : ∀ H : Hp, SqT K H (He.ga K x) (zs.map V.str) := fun H => by
  have z := He.tupB_ok h H
  rw [List.map_map] at z
  exact z
end Cs

set_option Elab.async false
set_option linter.all false
set_option maxRecDepth 100000
set_option maxHeartbeats 4000000
/-! The check of an own error's class over any base, for HeadK's heads. -/
namespace Cs
open PySem L2
def exoT (K : Fr) (C : Addr) (nid : String) (tl : List Value) : Bool := match K.lookup C with
  | some ⟨.type t, _, .cls cd, sl⟩ => decide (t = "type") && (match cd.mro, sl.toList with
    | .ref D :: bm, [_, _, _, _, some (.builtin n), _] => decide (D = C) && (decide (n = nid) && (cd.hasDict && (!cd.hasDel && refsT tl bm)))
    | _, _ => false)
  | _ => false
theorem exoT_ok {K : Fr} {C : Addr} {nid : String} {tl : List Value} (h : exoT K C nid tl = true) : ∃ nm q N bs bm sn sub ab col dd k0 k1 k2 k3 k5, K.lookup C = some (excClassObj nm q C N bs bm true sn sub ab col dd k0 k1 k2 k3 k5 nid) ∧ refsT tl bm = true := by
  unfold exoT at h
  split at h
  · rename_i t dd cd sl hl
    obtain ⟨h1, h2⟩ := Bool.and_eq_true_iff.mp h
    obtain rfl := of_decide_eq_true h1
    split at h2
    · rename_i D bm k0 k1 k2 k3 n k5 hm hs
      obtain ⟨h3, h4⟩ := Bool.and_eq_true_iff.mp h2
      obtain ⟨h5, h6⟩ := Bool.and_eq_true_iff.mp h4
      obtain ⟨h7, h8⟩ := Bool.and_eq_true_iff.mp h6
      obtain ⟨h9, h10⟩ := Bool.and_eq_true_iff.mp h8
      obtain rfl := of_decide_eq_true h3
      obtain rfl := of_decide_eq_true h5
      obtain ⟨nm, bs, mro, ns, qn, hd, sn, sb, ab, col, del⟩ := cd
      have hm2 : mro = .ref D :: bm := hm
      have h72 : hd = true := h7
      have h92 : (!del) = true := h9
      clear hm h7 h9 h6 h8 h4 h2 h
      subst hm2 h72
      cases del with
      | true => cases h92
      | false =>
      have es : sl = #[k0, k1, k2, k3, some (.builtin n), k5] := by
        rw [← Array.toList_inj, hs]
      subst es
      exact ⟨nm, qn, ns, bs, bm, sn, sb, ab, col, dd, k0, k1, k2, k3, k5, hl, h10⟩
    · cases h2
  · cases h
end Cs

set_option Elab.async false
set_option linter.all false
set_option maxRecDepth 100000
set_option maxHeartbeats 8000000
namespace Cs
open PySem L2
theorem all_mk {l : PySem.W.OpenLaw} {w : World} {K : PySem.W.Frag} {h : Heap} {mg : Str → Option Value} {fa : Addr} (X : K.In h) (G : h.Ns mainGlobals mg) (hfa : mg "law" = some (.ref fa))
    {f_source : Addr} {oc_source kV_source dc_source pm_source cd_source ct_source : Value} {od_source an_source : Option Addr} {sl_source : Array (Option Value)}
    {f_mixed : Addr} {oc_mixed kV_mixed dc_mixed pm_mixed cd_mixed ct_mixed : Value} {od_mixed an_mixed : Option Addr} {sl_mixed : Array (Option Value)}
    {f_draw : Addr} {oc_draw kV_draw dc_draw pm_draw cd_draw ct_draw : Value} {od_draw an_draw : Option Addr} {sl_draw : Array (Option Value)}
    {f_word : Addr} {oc_word kV_word dc_word pm_word cd_word ct_word : Value} {od_word an_word : Option Addr} {sl_word : Array (Option Value)}
    {f_number : Addr} {oc_number kV_number dc_number pm_number cd_number ct_number : Value} {od_number an_number : Option Addr} {sl_number : Array (Option Value)}
    {f_value : Addr} {oc_value kV_value dc_value pm_value cd_value ct_value : Value} {od_value an_value : Option Addr} {sl_value : Array (Option Value)}
    {f_first : Addr} {oc_first kV_first dc_first pm_first cd_first ct_first : Value} {od_first an_first : Option Addr} {sl_first : Array (Option Value)}
    {f_second : Addr} {oc_second kV_second dc_second pm_second cd_second ct_second : Value} {od_second an_second : Option Addr} {sl_second : Array (Option Value)}
    {f_bases : Addr} {oc_bases kV_bases dc_bases pm_bases cd_bases ct_bases : Value} {od_bases an_bases : Option Addr} {sl_bases : Array (Option Value)}
    {f_row : Addr} {oc_row kV_row dc_row pm_row cd_row ct_row : Value} {od_row an_row : Option Addr} {sl_row : Array (Option Value)}
    {f_values : Addr} {oc_values kV_values dc_values pm_values cd_values ct_values : Value} {od_values an_values : Option Addr} {sl_values : Array (Option Value)}
    {f_law : Addr} {oc_law kV_law dc_law pm_law cd_law ct_law : Value} {od_law an_law : Option Addr} {sl_law : Array (Option Value)}
    {A : Nat → Addr} {ce : Addr}
    {f_BadWord : Addr} {oc_BadWord kV_BadWord dc_BadWord pm_BadWord cd_BadWord ct_BadWord : Value} {od_BadWord an_BadWord : Option Addr} {sl_BadWord : Array (Option Value)}
    {f_BadNumber : Addr} {oc_BadNumber kV_BadNumber dc_BadNumber pm_BadNumber cd_BadNumber ct_BadNumber : Value} {od_BadNumber an_BadNumber : Option Addr} {sl_BadNumber : Array (Option Value)}
    {f_BadCounts : Addr} {oc_BadCounts kV_BadCounts dc_BadCounts pm_BadCounts cd_BadCounts ct_BadCounts : Value} {od_BadCounts an_BadCounts : Option Addr} {sl_BadCounts : Array (Option Value)}
    {f_BadRule : Addr} {oc_BadRule kV_BadRule dc_BadRule pm_BadRule cd_BadRule ct_BadRule : Value} {od_BadRule an_BadRule : Option Addr} {sl_BadRule : Array (Option Value)}
    {f_BadRules : Addr} {oc_BadRules kV_BadRules dc_BadRules pm_BadRules cd_BadRules ct_BadRules : Value} {od_BadRules an_BadRules : Option Addr} {sl_BadRules : Array (Option Value)}
    {f_BadDoor : Addr} {oc_BadDoor kV_BadDoor dc_BadDoor pm_BadDoor cd_BadDoor ct_BadDoor : Value} {od_BadDoor an_BadDoor : Option Addr} {sl_BadDoor : Array (Option Value)}
    {f_Unfit : Addr} {oc_Unfit kV_Unfit dc_Unfit pm_Unfit cd_Unfit ct_Unfit : Value} {od_Unfit an_Unfit : Option Addr} {sl_Unfit : Array (Option Value)}
    {f_BadDesk : Addr} {oc_BadDesk kV_BadDesk dc_BadDesk pm_BadDesk cd_BadDesk ct_BadDesk : Value} {od_BadDesk an_BadDesk : Option Addr} {sl_BadDesk : Array (Option Value)}
    {f_BadText : Addr} {oc_BadText kV_BadText dc_BadText pm_BadText cd_BadText ct_BadText : Value} {od_BadText an_BadText : Option Addr} {sl_BadText : Array (Option Value)}
    {f_NotLoose : Addr} {oc_NotLoose kV_NotLoose dc_NotLoose pm_NotLoose cd_NotLoose ct_NotLoose : Value} {od_NotLoose an_NotLoose : Option Addr} {sl_NotLoose : Array (Option Value)}
    {f_Named : Addr} {oc_Named kV_Named dc_Named pm_Named cd_Named ct_Named : Value} {od_Named an_Named : Option Addr} {sl_Named : Array (Option Value)}
    {f_Full : Addr} {oc_Full kV_Full dc_Full pm_Full cd_Full ct_Full : Value} {od_Full an_Full : Option Addr} {sl_Full : Array (Option Value)}
    {f_NoPick : Addr} {oc_NoPick kV_NoPick dc_NoPick pm_NoPick cd_NoPick ct_NoPick : Value} {od_NoPick an_NoPick : Option Addr} {sl_NoPick : Array (Option Value)}
    {f_Broken : Addr} {oc_Broken kV_Broken dc_Broken pm_Broken cd_Broken ct_Broken : Value} {od_Broken an_Broken : Option Addr} {sl_Broken : Array (Option Value)}
    {f_BadHistory : Addr} {oc_BadHistory kV_BadHistory dc_BadHistory pm_BadHistory cd_BadHistory ct_BadHistory : Value} {od_BadHistory an_BadHistory : Option Addr} {sl_BadHistory : Array (Option Value)}
    {f_BadStanding : Addr} {oc_BadStanding kV_BadStanding dc_BadStanding pm_BadStanding cd_BadStanding ct_BadStanding : Value} {od_BadStanding an_BadStanding : Option Addr} {sl_BadStanding : Array (Option Value)}
    {f_BadWay : Addr} {oc_BadWay kV_BadWay dc_BadWay pm_BadWay cd_BadWay ct_BadWay : Value} {od_BadWay an_BadWay : Option Addr} {sl_BadWay : Array (Option Value)}
    {f_NoWay : Addr} {oc_NoWay kV_NoWay dc_NoWay pm_NoWay cd_NoWay ct_NoWay : Value} {od_NoWay an_NoWay : Option Addr} {sl_NoWay : Array (Option Value)}
    {f_TooMany : Addr} {oc_TooMany kV_TooMany dc_TooMany pm_TooMany cd_TooMany ct_TooMany : Value} {od_TooMany an_TooMany : Option Addr} {sl_TooMany : Array (Option Value)}
    {f_NoDoor : Addr} {oc_NoDoor kV_NoDoor dc_NoDoor pm_NoDoor cd_NoDoor ct_NoDoor : Value} {od_NoDoor an_NoDoor : Option Addr} {sl_NoDoor : Array (Option Value)}
    {f_NoBegin : Addr} {oc_NoBegin kV_NoBegin dc_NoBegin pm_NoBegin cd_NoBegin ct_NoBegin : Value} {od_NoBegin an_NoBegin : Option Addr} {sl_NoBegin : Array (Option Value)}
    {f_NoOwner : Addr} {oc_NoOwner kV_NoOwner dc_NoOwner pm_NoOwner cd_NoOwner ct_NoOwner : Value} {od_NoOwner an_NoOwner : Option Addr} {sl_NoOwner : Array (Option Value)}
    {f_NoRow : Addr} {oc_NoRow kV_NoRow dc_NoRow pm_NoRow cd_NoRow ct_NoRow : Value} {od_NoRow an_NoRow : Option Addr} {sl_NoRow : Array (Option Value)}
    {f_NoRule : Addr} {oc_NoRule kV_NoRule dc_NoRule pm_NoRule cd_NoRule ct_NoRule : Value} {od_NoRule an_NoRule : Option Addr} {sl_NoRule : Array (Option Value)}
    {f_NoDivisor : Addr} {oc_NoDivisor kV_NoDivisor dc_NoDivisor pm_NoDivisor cd_NoDivisor ct_NoDivisor : Value} {od_NoDivisor an_NoDivisor : Option Addr} {sl_NoDivisor : Array (Option Value)}
    {f_Waits : Addr} {oc_Waits kV_Waits dc_Waits pm_Waits cd_Waits ct_Waits : Value} {od_Waits an_Waits : Option Addr} {sl_Waits : Array (Option Value)}
    {f_Refused : Addr} {oc_Refused kV_Refused dc_Refused pm_Refused cd_Refused ct_Refused : Value} {od_Refused an_Refused : Option Addr} {sl_Refused : Array (Option Value)}
    {f_Over : Addr} {oc_Over kV_Over dc_Over pm_Over cd_Over ct_Over : Value} {od_Over an_Over : Option Addr} {sl_Over : Array (Option Value)}
    {f_Busy : Addr} {oc_Busy kV_Busy dc_Busy pm_Busy cd_Busy ct_Busy : Value} {od_Busy an_Busy : Option Addr} {sl_Busy : Array (Option Value)}
    (a_source : PySem.W.nsIn K mainGlobals "_law_source" = some (some (.ref f_source)))
    (l_source : K.lookup f_source = some ⟨oc_source, od_source, .func (PySem.W.fnOf "_law_source" "_law_source" (defArgs s_l_source) (defBody s_l_source) (defScope s_l_source) .none kV_source dc_source pm_source an_source cd_source ct_source), sl_source⟩)
    (c_source : PySem.W.codeIn K cd_source "_law_source" = true)
    (k_source : PySem.W.keepIn K (.ref f_source) = true)
    (a_mixed : PySem.W.nsIn K mainGlobals "_law_mixed" = some (some (.ref f_mixed)))
    (l_mixed : K.lookup f_mixed = some ⟨oc_mixed, od_mixed, .func (PySem.W.fnOf "_law_mixed" "_law_mixed" (defArgs s_l_mixed) (defBody s_l_mixed) (defScope s_l_mixed) .none kV_mixed dc_mixed pm_mixed an_mixed cd_mixed ct_mixed), sl_mixed⟩)
    (c_mixed : PySem.W.codeIn K cd_mixed "_law_mixed" = true)
    (k_mixed : PySem.W.keepIn K (.ref f_mixed) = true)
    (a_draw : PySem.W.nsIn K mainGlobals "_law_draw" = some (some (.ref f_draw)))
    (l_draw : K.lookup f_draw = some ⟨oc_draw, od_draw, .func (PySem.W.fnOf "_law_draw" "_law_draw" (defArgs s_l_draw) (defBody s_l_draw) (defScope s_l_draw) .none kV_draw dc_draw pm_draw an_draw cd_draw ct_draw), sl_draw⟩)
    (c_draw : PySem.W.codeIn K cd_draw "_law_draw" = true)
    (k_draw : PySem.W.keepIn K (.ref f_draw) = true)
    (a_word : PySem.W.nsIn K mainGlobals "_law_word" = some (some (.ref f_word)))
    (l_word : K.lookup f_word = some ⟨oc_word, od_word, .func (PySem.W.fnOf "_law_word" "_law_word" (defArgs s_l_word) (defBody s_l_word) (defScope s_l_word) .none kV_word dc_word pm_word an_word cd_word ct_word), sl_word⟩)
    (c_word : PySem.W.codeIn K cd_word "_law_word" = true)
    (k_word : PySem.W.keepIn K (.ref f_word) = true)
    (a_number : PySem.W.nsIn K mainGlobals "_law_number" = some (some (.ref f_number)))
    (l_number : K.lookup f_number = some ⟨oc_number, od_number, .func (PySem.W.fnOf "_law_number" "_law_number" (defArgs s_l_number) (defBody s_l_number) (defScope s_l_number) .none kV_number dc_number pm_number an_number cd_number ct_number), sl_number⟩)
    (c_number : PySem.W.codeIn K cd_number "_law_number" = true)
    (k_number : PySem.W.keepIn K (.ref f_number) = true)
    (a_value : PySem.W.nsIn K mainGlobals "_law_value" = some (some (.ref f_value)))
    (l_value : K.lookup f_value = some ⟨oc_value, od_value, .func (PySem.W.fnOf "_law_value" "_law_value" (defArgs s_l_value) (defBody s_l_value) (defScope s_l_value) .none kV_value dc_value pm_value an_value cd_value ct_value), sl_value⟩)
    (c_value : PySem.W.codeIn K cd_value "_law_value" = true)
    (k_value : PySem.W.keepIn K (.ref f_value) = true)
    (a_first : PySem.W.nsIn K mainGlobals "_law_first" = some (some (.ref f_first)))
    (l_first : K.lookup f_first = some ⟨oc_first, od_first, .func (PySem.W.fnOf "_law_first" "_law_first" (defArgs s_l_first) (defBody s_l_first) (defScope s_l_first) .none kV_first dc_first pm_first an_first cd_first ct_first), sl_first⟩)
    (c_first : PySem.W.codeIn K cd_first "_law_first" = true)
    (k_first : PySem.W.keepIn K (.ref f_first) = true)
    (a_second : PySem.W.nsIn K mainGlobals "_law_second" = some (some (.ref f_second)))
    (l_second : K.lookup f_second = some ⟨oc_second, od_second, .func (PySem.W.fnOf "_law_second" "_law_second" (defArgs s_l_second) (defBody s_l_second) (defScope s_l_second) .none kV_second dc_second pm_second an_second cd_second ct_second), sl_second⟩)
    (c_second : PySem.W.codeIn K cd_second "_law_second" = true)
    (k_second : PySem.W.keepIn K (.ref f_second) = true)
    (a_bases : PySem.W.nsIn K mainGlobals "_law_bases" = some (some (.ref f_bases)))
    (l_bases : K.lookup f_bases = some ⟨oc_bases, od_bases, .func (PySem.W.fnOf "_law_bases" "_law_bases" (defArgs s_l_bases) (defBody s_l_bases) (defScope s_l_bases) .none kV_bases dc_bases pm_bases an_bases cd_bases ct_bases), sl_bases⟩)
    (c_bases : PySem.W.codeIn K cd_bases "_law_bases" = true)
    (k_bases : PySem.W.keepIn K (.ref f_bases) = true)
    (a_row : PySem.W.nsIn K mainGlobals "_law_row" = some (some (.ref f_row)))
    (l_row : K.lookup f_row = some ⟨oc_row, od_row, .func (PySem.W.fnOf "_law_row" "_law_row" (defArgs s_l_row) (defBody s_l_row) (defScope s_l_row) .none kV_row dc_row pm_row an_row cd_row ct_row), sl_row⟩)
    (c_row : PySem.W.codeIn K cd_row "_law_row" = true)
    (k_row : PySem.W.keepIn K (.ref f_row) = true)
    (a_values : PySem.W.nsIn K mainGlobals "_law_values" = some (some (.ref f_values)))
    (l_values : K.lookup f_values = some ⟨oc_values, od_values, .func (PySem.W.fnOf "_law_values" "_law_values" (defArgs s_l_values) (defBody s_l_values) (defScope s_l_values) .none kV_values dc_values pm_values an_values cd_values ct_values), sl_values⟩)
    (c_values : PySem.W.codeIn K cd_values "_law_values" = true)
    (k_values : PySem.W.keepIn K (.ref f_values) = true)
    (a_law : PySem.W.nsIn K mainGlobals "law" = some (some (.ref f_law)))
    (l_law : K.lookup f_law = some ⟨oc_law, od_law, .func (PySem.W.fnOf "law" "law" (defArgs s_law) (defBody s_law) (defScope s_law) .none kV_law dc_law pm_law an_law cd_law ct_law), sl_law⟩)
    (c_law : PySem.W.codeIn K cd_law "law" = true)
    (k_law : PySem.W.keepIn K (.ref f_law) = true)
    (t_m : ∀ i, i < 30 → PySem.W.nsIn K mainGlobals (enm.getD i "") = some (some (.ref (A i))))
    (a_ce : PySem.W.nsIn K mainGlobals "CountsheldError" = some (some (.ref ce)))
    (t_hg : ∀ i, i < 30 → PySem.W.findIn K (.ref (A i)) "__getattribute__" = some (some (.builtin "BaseException.__getattribute__")))
    (t_hk : ∀ i, i < 30 → PySem.W.findIn K (.ref (A i)) "__getattr__" = some none)
    (t_hs : ∀ i, i < 30 → PySem.W.subIn K (.ref (A i)) (.type "BaseException") = some true)
    (t_hd : ∀ i, i < 30 → PySem.W.hasDictIn K (A i) = true)
    (t_ha : ∀ i, i < 30 → PySem.W.findIn K (.ref (A i)) "__class__" = some (some (.builtin "object.__class__")))
    (t_hm : ∀ i, i < 30 → PySem.W.mroIn K (A i) (.type "object") = some true)
    (t_sa : ∀ i, i < 30 → PySem.W.findIn K (.ref (A i)) "__setattr__" = some (some (.builtin "object.__setattr__")))
    (t_ty : ∀ i, i < 30 → PySem.W.typeIn K (.ref (A i)) = some (.type "type"))
    (t_kc : ∀ i, i < 30 → PySem.W.keepIn K (.ref (A i)) = true)
    (ch_R : PySem.W.specialIn K (.builtin "object.__class__") "__get__" = some (some (.builtin "getset_descriptor.__get__")))
    (ct_R : PySem.W.takesIn K (.builtin "object.__class__") = some true)
    (t_kit : ∀ i, i < 30 → ∀ j, j < 30 → PySem.W.kitOne K (.ref (A i)) (.ref (A j)) = some (decide (i = j)))
    (t_k0 : ∀ i, i < 30 → PySem.W.kitOne K (.ref (A i)) (.ref ce) = some (decide (i < 20)))
    (t_k1 : ∀ i, i < 30 → PySem.W.kitOne K (.ref (A i)) (.type "ValueError") = some (decide (i < 20)))
    (t_k2 : ∀ i, i < 30 → PySem.W.kitOne K (.ref (A i)) (.type "LookupError") = some (decide (20 ≤ i ∧ i < 25)))
    (t_k3 : ∀ i, i < 30 → PySem.W.kitOne K (.ref (A i)) (.type "ZeroDivisionError") = some (decide (i = 25)))
    (t_k4 : ∀ i, i < 30 → PySem.W.kitOne K (.ref (A i)) (.type "RuntimeError") = some (decide (25 < i)))
    (x_NotKept : PySem.W.excIn K (A 18) PySem.HandSPX.veTail "ValueError.__new__" = true)
    (x_BadWord : ∃ nm q N bs bm sn sub ab col dd k0 k1 k2 k3 k5, K.lookup (A 0) = some (excClassObj nm q (A 0) N bs bm true sn sub ab col dd k0 k1 k2 k3 k5 "ValueError.__new__") ∧ refsT [.type "ValueError", .type "Exception", .type "BaseException", .type "object"] bm = true)
    (a_BadWord : PySem.W.findIn K (.ref (A 0)) "__init__" = some (some (.ref f_BadWord)))
    (t_BadWord : PySem.W.typeIn K (.ref f_BadWord) = some (.type "function"))
    (l_BadWord : K.lookup f_BadWord = some ⟨oc_BadWord, od_BadWord, .func (PySem.W.fnOf "__init__" "BadWord.__init__" (defArgs s_BadWord_init) (defBody s_BadWord_init) (defScope s_BadWord_init) .none kV_BadWord dc_BadWord pm_BadWord an_BadWord cd_BadWord ct_BadWord), sl_BadWord⟩)
    (c_BadWord : PySem.W.codeIn K cd_BadWord "BadWord.__init__" = true)
    (k_BadWord : PySem.W.keepIn K (.ref f_BadWord) = true)
    (nf_BadWord : ∀ z ∈ (["word"] : List Str), PySem.W.findIn K (.ref (A 0)) z = some none)
    (x_BadNumber : ∃ nm q N bs bm sn sub ab col dd k0 k1 k2 k3 k5, K.lookup (A 1) = some (excClassObj nm q (A 1) N bs bm true sn sub ab col dd k0 k1 k2 k3 k5 "ValueError.__new__") ∧ refsT [.type "ValueError", .type "Exception", .type "BaseException", .type "object"] bm = true)
    (a_BadNumber : PySem.W.findIn K (.ref (A 1)) "__init__" = some (some (.ref f_BadNumber)))
    (t_BadNumber : PySem.W.typeIn K (.ref f_BadNumber) = some (.type "function"))
    (l_BadNumber : K.lookup f_BadNumber = some ⟨oc_BadNumber, od_BadNumber, .func (PySem.W.fnOf "__init__" "BadNumber.__init__" (defArgs s_BadNumber_init) (defBody s_BadNumber_init) (defScope s_BadNumber_init) .none kV_BadNumber dc_BadNumber pm_BadNumber an_BadNumber cd_BadNumber ct_BadNumber), sl_BadNumber⟩)
    (c_BadNumber : PySem.W.codeIn K cd_BadNumber "BadNumber.__init__" = true)
    (k_BadNumber : PySem.W.keepIn K (.ref f_BadNumber) = true)
    (nf_BadNumber : ∀ z ∈ (["number"] : List Str), PySem.W.findIn K (.ref (A 1)) z = some none)
    (x_BadCounts : ∃ nm q N bs bm sn sub ab col dd k0 k1 k2 k3 k5, K.lookup (A 2) = some (excClassObj nm q (A 2) N bs bm true sn sub ab col dd k0 k1 k2 k3 k5 "ValueError.__new__") ∧ refsT [.type "ValueError", .type "Exception", .type "BaseException", .type "object"] bm = true)
    (a_BadCounts : PySem.W.findIn K (.ref (A 2)) "__init__" = some (some (.ref f_BadCounts)))
    (t_BadCounts : PySem.W.typeIn K (.ref f_BadCounts) = some (.type "function"))
    (l_BadCounts : K.lookup f_BadCounts = some ⟨oc_BadCounts, od_BadCounts, .func (PySem.W.fnOf "__init__" "BadCounts.__init__" (defArgs s_BadCounts_init) (defBody s_BadCounts_init) (defScope s_BadCounts_init) .none kV_BadCounts dc_BadCounts pm_BadCounts an_BadCounts cd_BadCounts ct_BadCounts), sl_BadCounts⟩)
    (c_BadCounts : PySem.W.codeIn K cd_BadCounts "BadCounts.__init__" = true)
    (k_BadCounts : PySem.W.keepIn K (.ref f_BadCounts) = true)
    (nf_BadCounts : ∀ z ∈ (["at"] : List Str), PySem.W.findIn K (.ref (A 2)) z = some none)
    (x_BadRule : ∃ nm q N bs bm sn sub ab col dd k0 k1 k2 k3 k5, K.lookup (A 3) = some (excClassObj nm q (A 3) N bs bm true sn sub ab col dd k0 k1 k2 k3 k5 "ValueError.__new__") ∧ refsT [.type "ValueError", .type "Exception", .type "BaseException", .type "object"] bm = true)
    (a_BadRule : PySem.W.findIn K (.ref (A 3)) "__init__" = some (some (.ref f_BadRule)))
    (t_BadRule : PySem.W.typeIn K (.ref f_BadRule) = some (.type "function"))
    (l_BadRule : K.lookup f_BadRule = some ⟨oc_BadRule, od_BadRule, .func (PySem.W.fnOf "__init__" "BadRule.__init__" (defArgs s_BadRule_init) (defBody s_BadRule_init) (defScope s_BadRule_init) .none kV_BadRule dc_BadRule pm_BadRule an_BadRule cd_BadRule ct_BadRule), sl_BadRule⟩)
    (c_BadRule : PySem.W.codeIn K cd_BadRule "BadRule.__init__" = true)
    (k_BadRule : PySem.W.keepIn K (.ref f_BadRule) = true)
    (nf_BadRule : ∀ z ∈ (["what"] : List Str), PySem.W.findIn K (.ref (A 3)) z = some none)
    (x_BadRules : ∃ nm q N bs bm sn sub ab col dd k0 k1 k2 k3 k5, K.lookup (A 4) = some (excClassObj nm q (A 4) N bs bm true sn sub ab col dd k0 k1 k2 k3 k5 "ValueError.__new__") ∧ refsT [.type "ValueError", .type "Exception", .type "BaseException", .type "object"] bm = true)
    (a_BadRules : PySem.W.findIn K (.ref (A 4)) "__init__" = some (some (.ref f_BadRules)))
    (t_BadRules : PySem.W.typeIn K (.ref f_BadRules) = some (.type "function"))
    (l_BadRules : K.lookup f_BadRules = some ⟨oc_BadRules, od_BadRules, .func (PySem.W.fnOf "__init__" "BadRules.__init__" (defArgs s_BadRules_init) (defBody s_BadRules_init) (defScope s_BadRules_init) .none kV_BadRules dc_BadRules pm_BadRules an_BadRules cd_BadRules ct_BadRules), sl_BadRules⟩)
    (c_BadRules : PySem.W.codeIn K cd_BadRules "BadRules.__init__" = true)
    (k_BadRules : PySem.W.keepIn K (.ref f_BadRules) = true)
    (nf_BadRules : ∀ z ∈ (["what"] : List Str), PySem.W.findIn K (.ref (A 4)) z = some none)
    (x_BadDoor : ∃ nm q N bs bm sn sub ab col dd k0 k1 k2 k3 k5, K.lookup (A 5) = some (excClassObj nm q (A 5) N bs bm true sn sub ab col dd k0 k1 k2 k3 k5 "ValueError.__new__") ∧ refsT [.type "ValueError", .type "Exception", .type "BaseException", .type "object"] bm = true)
    (a_BadDoor : PySem.W.findIn K (.ref (A 5)) "__init__" = some (some (.ref f_BadDoor)))
    (t_BadDoor : PySem.W.typeIn K (.ref f_BadDoor) = some (.type "function"))
    (l_BadDoor : K.lookup f_BadDoor = some ⟨oc_BadDoor, od_BadDoor, .func (PySem.W.fnOf "__init__" "BadDoor.__init__" (defArgs s_BadDoor_init) (defBody s_BadDoor_init) (defScope s_BadDoor_init) .none kV_BadDoor dc_BadDoor pm_BadDoor an_BadDoor cd_BadDoor ct_BadDoor), sl_BadDoor⟩)
    (c_BadDoor : PySem.W.codeIn K cd_BadDoor "BadDoor.__init__" = true)
    (k_BadDoor : PySem.W.keepIn K (.ref f_BadDoor) = true)
    (nf_BadDoor : ∀ z ∈ (["at"] : List Str), PySem.W.findIn K (.ref (A 5)) z = some none)
    (x_Unfit : ∃ nm q N bs bm sn sub ab col dd k0 k1 k2 k3 k5, K.lookup (A 6) = some (excClassObj nm q (A 6) N bs bm true sn sub ab col dd k0 k1 k2 k3 k5 "ValueError.__new__") ∧ refsT [.type "ValueError", .type "Exception", .type "BaseException", .type "object"] bm = true)
    (a_Unfit : PySem.W.findIn K (.ref (A 6)) "__init__" = some (some (.ref f_Unfit)))
    (t_Unfit : PySem.W.typeIn K (.ref f_Unfit) = some (.type "function"))
    (l_Unfit : K.lookup f_Unfit = some ⟨oc_Unfit, od_Unfit, .func (PySem.W.fnOf "__init__" "Unfit.__init__" (defArgs s_Unfit_init) (defBody s_Unfit_init) (defScope s_Unfit_init) .none kV_Unfit dc_Unfit pm_Unfit an_Unfit cd_Unfit ct_Unfit), sl_Unfit⟩)
    (c_Unfit : PySem.W.codeIn K cd_Unfit "Unfit.__init__" = true)
    (k_Unfit : PySem.W.keepIn K (.ref f_Unfit) = true)
    (nf_Unfit : ∀ z ∈ (["door", "line"] : List Str), PySem.W.findIn K (.ref (A 6)) z = some none)
    (x_BadDesk : ∃ nm q N bs bm sn sub ab col dd k0 k1 k2 k3 k5, K.lookup (A 7) = some (excClassObj nm q (A 7) N bs bm true sn sub ab col dd k0 k1 k2 k3 k5 "ValueError.__new__") ∧ refsT [.type "ValueError", .type "Exception", .type "BaseException", .type "object"] bm = true)
    (a_BadDesk : PySem.W.findIn K (.ref (A 7)) "__init__" = some (some (.ref f_BadDesk)))
    (t_BadDesk : PySem.W.typeIn K (.ref f_BadDesk) = some (.type "function"))
    (l_BadDesk : K.lookup f_BadDesk = some ⟨oc_BadDesk, od_BadDesk, .func (PySem.W.fnOf "__init__" "BadDesk.__init__" (defArgs s_BadDesk_init) (defBody s_BadDesk_init) (defScope s_BadDesk_init) .none kV_BadDesk dc_BadDesk pm_BadDesk an_BadDesk cd_BadDesk ct_BadDesk), sl_BadDesk⟩)
    (c_BadDesk : PySem.W.codeIn K cd_BadDesk "BadDesk.__init__" = true)
    (k_BadDesk : PySem.W.keepIn K (.ref f_BadDesk) = true)
    (nf_BadDesk : ∀ z ∈ (["what"] : List Str), PySem.W.findIn K (.ref (A 7)) z = some none)
    (x_BadText : ∃ nm q N bs bm sn sub ab col dd k0 k1 k2 k3 k5, K.lookup (A 8) = some (excClassObj nm q (A 8) N bs bm true sn sub ab col dd k0 k1 k2 k3 k5 "ValueError.__new__") ∧ refsT [.type "ValueError", .type "Exception", .type "BaseException", .type "object"] bm = true)
    (a_BadText : PySem.W.findIn K (.ref (A 8)) "__init__" = some (some (.ref f_BadText)))
    (t_BadText : PySem.W.typeIn K (.ref f_BadText) = some (.type "function"))
    (l_BadText : K.lookup f_BadText = some ⟨oc_BadText, od_BadText, .func (PySem.W.fnOf "__init__" "BadText.__init__" (defArgs s_BadText_init) (defBody s_BadText_init) (defScope s_BadText_init) .none kV_BadText dc_BadText pm_BadText an_BadText cd_BadText ct_BadText), sl_BadText⟩)
    (c_BadText : PySem.W.codeIn K cd_BadText "BadText.__init__" = true)
    (k_BadText : PySem.W.keepIn K (.ref f_BadText) = true)
    (nf_BadText : ∀ z ∈ (["at"] : List Str), PySem.W.findIn K (.ref (A 8)) z = some none)
    (x_NotLoose : ∃ nm q N bs bm sn sub ab col dd k0 k1 k2 k3 k5, K.lookup (A 9) = some (excClassObj nm q (A 9) N bs bm true sn sub ab col dd k0 k1 k2 k3 k5 "ValueError.__new__") ∧ refsT [.type "ValueError", .type "Exception", .type "BaseException", .type "object"] bm = true)
    (a_NotLoose : PySem.W.findIn K (.ref (A 9)) "__init__" = some (some (.ref f_NotLoose)))
    (t_NotLoose : PySem.W.typeIn K (.ref f_NotLoose) = some (.type "function"))
    (l_NotLoose : K.lookup f_NotLoose = some ⟨oc_NotLoose, od_NotLoose, .func (PySem.W.fnOf "__init__" "NotLoose.__init__" (defArgs s_NotLoose_init) (defBody s_NotLoose_init) (defScope s_NotLoose_init) .none kV_NotLoose dc_NotLoose pm_NotLoose an_NotLoose cd_NotLoose ct_NotLoose), sl_NotLoose⟩)
    (c_NotLoose : PySem.W.codeIn K cd_NotLoose "NotLoose.__init__" = true)
    (k_NotLoose : PySem.W.keepIn K (.ref f_NotLoose) = true)
    (nf_NotLoose : ∀ z ∈ (["kind"] : List Str), PySem.W.findIn K (.ref (A 9)) z = some none)
    (x_Named : ∃ nm q N bs bm sn sub ab col dd k0 k1 k2 k3 k5, K.lookup (A 10) = some (excClassObj nm q (A 10) N bs bm true sn sub ab col dd k0 k1 k2 k3 k5 "ValueError.__new__") ∧ refsT [.type "ValueError", .type "Exception", .type "BaseException", .type "object"] bm = true)
    (a_Named : PySem.W.findIn K (.ref (A 10)) "__init__" = some (some (.ref f_Named)))
    (t_Named : PySem.W.typeIn K (.ref f_Named) = some (.type "function"))
    (l_Named : K.lookup f_Named = some ⟨oc_Named, od_Named, .func (PySem.W.fnOf "__init__" "Named.__init__" (defArgs s_Named_init) (defBody s_Named_init) (defScope s_Named_init) .none kV_Named dc_Named pm_Named an_Named cd_Named ct_Named), sl_Named⟩)
    (c_Named : PySem.W.codeIn K cd_Named "Named.__init__" = true)
    (k_Named : PySem.W.keepIn K (.ref f_Named) = true)
    (nf_Named : ∀ z ∈ (["row"] : List Str), PySem.W.findIn K (.ref (A 10)) z = some none)
    (x_Full : ∃ nm q N bs bm sn sub ab col dd k0 k1 k2 k3 k5, K.lookup (A 11) = some (excClassObj nm q (A 11) N bs bm true sn sub ab col dd k0 k1 k2 k3 k5 "ValueError.__new__") ∧ refsT [.type "ValueError", .type "Exception", .type "BaseException", .type "object"] bm = true)
    (a_Full : PySem.W.findIn K (.ref (A 11)) "__init__" = some (some (.ref f_Full)))
    (t_Full : PySem.W.typeIn K (.ref f_Full) = some (.type "function"))
    (l_Full : K.lookup f_Full = some ⟨oc_Full, od_Full, .func (PySem.W.fnOf "__init__" "Full.__init__" (defArgs s_Full_init) (defBody s_Full_init) (defScope s_Full_init) .none kV_Full dc_Full pm_Full an_Full cd_Full ct_Full), sl_Full⟩)
    (c_Full : PySem.W.codeIn K cd_Full "Full.__init__" = true)
    (k_Full : PySem.W.keepIn K (.ref f_Full) = true)
    (nf_Full : ∀ z ∈ (["owner"] : List Str), PySem.W.findIn K (.ref (A 11)) z = some none)
    (x_NoPick : ∃ nm q N bs bm sn sub ab col dd k0 k1 k2 k3 k5, K.lookup (A 12) = some (excClassObj nm q (A 12) N bs bm true sn sub ab col dd k0 k1 k2 k3 k5 "ValueError.__new__") ∧ refsT [.type "ValueError", .type "Exception", .type "BaseException", .type "object"] bm = true)
    (a_NoPick : PySem.W.findIn K (.ref (A 12)) "__init__" = some (some (.ref f_NoPick)))
    (t_NoPick : PySem.W.typeIn K (.ref f_NoPick) = some (.type "function"))
    (l_NoPick : K.lookup f_NoPick = some ⟨oc_NoPick, od_NoPick, .func (PySem.W.fnOf "__init__" "NoPick.__init__" (defArgs s_NoPick_init) (defBody s_NoPick_init) (defScope s_NoPick_init) .none kV_NoPick dc_NoPick pm_NoPick an_NoPick cd_NoPick ct_NoPick), sl_NoPick⟩)
    (c_NoPick : PySem.W.codeIn K cd_NoPick "NoPick.__init__" = true)
    (k_NoPick : PySem.W.keepIn K (.ref f_NoPick) = true)
    (nf_NoPick : ∀ z ∈ (["pick"] : List Str), PySem.W.findIn K (.ref (A 12)) z = some none)
    (x_Broken : ∃ nm q N bs bm sn sub ab col dd k0 k1 k2 k3 k5, K.lookup (A 13) = some (excClassObj nm q (A 13) N bs bm true sn sub ab col dd k0 k1 k2 k3 k5 "ValueError.__new__") ∧ refsT [.type "ValueError", .type "Exception", .type "BaseException", .type "object"] bm = true)
    (a_Broken : PySem.W.findIn K (.ref (A 13)) "__init__" = some (some (.ref f_Broken)))
    (t_Broken : PySem.W.typeIn K (.ref f_Broken) = some (.type "function"))
    (l_Broken : K.lookup f_Broken = some ⟨oc_Broken, od_Broken, .func (PySem.W.fnOf "__init__" "Broken.__init__" (defArgs s_Broken_init) (defBody s_Broken_init) (defScope s_Broken_init) .none kV_Broken dc_Broken pm_Broken an_Broken cd_Broken ct_Broken), sl_Broken⟩)
    (c_Broken : PySem.W.codeIn K cd_Broken "Broken.__init__" = true)
    (k_Broken : PySem.W.keepIn K (.ref f_Broken) = true)
    (nf_Broken : ∀ z ∈ (["rules"] : List Str), PySem.W.findIn K (.ref (A 13)) z = some none)
    (x_BadHistory : ∃ nm q N bs bm sn sub ab col dd k0 k1 k2 k3 k5, K.lookup (A 14) = some (excClassObj nm q (A 14) N bs bm true sn sub ab col dd k0 k1 k2 k3 k5 "ValueError.__new__") ∧ refsT [.type "ValueError", .type "Exception", .type "BaseException", .type "object"] bm = true)
    (a_BadHistory : PySem.W.findIn K (.ref (A 14)) "__init__" = some (some (.ref f_BadHistory)))
    (t_BadHistory : PySem.W.typeIn K (.ref f_BadHistory) = some (.type "function"))
    (l_BadHistory : K.lookup f_BadHistory = some ⟨oc_BadHistory, od_BadHistory, .func (PySem.W.fnOf "__init__" "BadHistory.__init__" (defArgs s_BadHistory_init) (defBody s_BadHistory_init) (defScope s_BadHistory_init) .none kV_BadHistory dc_BadHistory pm_BadHistory an_BadHistory cd_BadHistory ct_BadHistory), sl_BadHistory⟩)
    (c_BadHistory : PySem.W.codeIn K cd_BadHistory "BadHistory.__init__" = true)
    (k_BadHistory : PySem.W.keepIn K (.ref f_BadHistory) = true)
    (nf_BadHistory : ∀ z ∈ (["at"] : List Str), PySem.W.findIn K (.ref (A 14)) z = some none)
    (x_BadStanding : ∃ nm q N bs bm sn sub ab col dd k0 k1 k2 k3 k5, K.lookup (A 15) = some (excClassObj nm q (A 15) N bs bm true sn sub ab col dd k0 k1 k2 k3 k5 "ValueError.__new__") ∧ refsT [.type "ValueError", .type "Exception", .type "BaseException", .type "object"] bm = true)
    (a_BadStanding : PySem.W.findIn K (.ref (A 15)) "__init__" = some (some (.ref f_BadStanding)))
    (t_BadStanding : PySem.W.typeIn K (.ref f_BadStanding) = some (.type "function"))
    (l_BadStanding : K.lookup f_BadStanding = some ⟨oc_BadStanding, od_BadStanding, .func (PySem.W.fnOf "__init__" "BadStanding.__init__" (defArgs s_BadStanding_init) (defBody s_BadStanding_init) (defScope s_BadStanding_init) .none kV_BadStanding dc_BadStanding pm_BadStanding an_BadStanding cd_BadStanding ct_BadStanding), sl_BadStanding⟩)
    (c_BadStanding : PySem.W.codeIn K cd_BadStanding "BadStanding.__init__" = true)
    (k_BadStanding : PySem.W.keepIn K (.ref f_BadStanding) = true)
    (nf_BadStanding : ∀ z ∈ (["standing"] : List Str), PySem.W.findIn K (.ref (A 15)) z = some none)
    (x_BadWay : ∃ nm q N bs bm sn sub ab col dd k0 k1 k2 k3 k5, K.lookup (A 16) = some (excClassObj nm q (A 16) N bs bm true sn sub ab col dd k0 k1 k2 k3 k5 "ValueError.__new__") ∧ refsT [.type "ValueError", .type "Exception", .type "BaseException", .type "object"] bm = true)
    (a_BadWay : PySem.W.findIn K (.ref (A 16)) "__init__" = some (some (.ref f_BadWay)))
    (t_BadWay : PySem.W.typeIn K (.ref f_BadWay) = some (.type "function"))
    (l_BadWay : K.lookup f_BadWay = some ⟨oc_BadWay, od_BadWay, .func (PySem.W.fnOf "__init__" "BadWay.__init__" (defArgs s_BadWay_init) (defBody s_BadWay_init) (defScope s_BadWay_init) .none kV_BadWay dc_BadWay pm_BadWay an_BadWay cd_BadWay ct_BadWay), sl_BadWay⟩)
    (c_BadWay : PySem.W.codeIn K cd_BadWay "BadWay.__init__" = true)
    (k_BadWay : PySem.W.keepIn K (.ref f_BadWay) = true)
    (nf_BadWay : ∀ z ∈ (["at"] : List Str), PySem.W.findIn K (.ref (A 16)) z = some none)
    (x_NoWay : ∃ nm q N bs bm sn sub ab col dd k0 k1 k2 k3 k5, K.lookup (A 17) = some (excClassObj nm q (A 17) N bs bm true sn sub ab col dd k0 k1 k2 k3 k5 "ValueError.__new__") ∧ refsT [.type "ValueError", .type "Exception", .type "BaseException", .type "object"] bm = true)
    (a_NoWay : PySem.W.findIn K (.ref (A 17)) "__init__" = some (some (.ref f_NoWay)))
    (t_NoWay : PySem.W.typeIn K (.ref f_NoWay) = some (.type "function"))
    (l_NoWay : K.lookup f_NoWay = some ⟨oc_NoWay, od_NoWay, .func (PySem.W.fnOf "__init__" "NoWay.__init__" (defArgs s_NoWay_init) (defBody s_NoWay_init) (defScope s_NoWay_init) .none kV_NoWay dc_NoWay pm_NoWay an_NoWay cd_NoWay ct_NoWay), sl_NoWay⟩)
    (c_NoWay : PySem.W.codeIn K cd_NoWay "NoWay.__init__" = true)
    (k_NoWay : PySem.W.keepIn K (.ref f_NoWay) = true)
    (nf_NoWay : ∀ z ∈ (["standing"] : List Str), PySem.W.findIn K (.ref (A 17)) z = some none)
    (x_TooMany : ∃ nm q N bs bm sn sub ab col dd k0 k1 k2 k3 k5, K.lookup (A 19) = some (excClassObj nm q (A 19) N bs bm true sn sub ab col dd k0 k1 k2 k3 k5 "ValueError.__new__") ∧ refsT [.type "ValueError", .type "Exception", .type "BaseException", .type "object"] bm = true)
    (a_TooMany : PySem.W.findIn K (.ref (A 19)) "__init__" = some (some (.ref f_TooMany)))
    (t_TooMany : PySem.W.typeIn K (.ref f_TooMany) = some (.type "function"))
    (l_TooMany : K.lookup f_TooMany = some ⟨oc_TooMany, od_TooMany, .func (PySem.W.fnOf "__init__" "TooMany.__init__" (defArgs s_TooMany_init) (defBody s_TooMany_init) (defScope s_TooMany_init) .none kV_TooMany dc_TooMany pm_TooMany an_TooMany cd_TooMany ct_TooMany), sl_TooMany⟩)
    (c_TooMany : PySem.W.codeIn K cd_TooMany "TooMany.__init__" = true)
    (k_TooMany : PySem.W.keepIn K (.ref f_TooMany) = true)
    (nf_TooMany : ∀ z ∈ (["what"] : List Str), PySem.W.findIn K (.ref (A 19)) z = some none)
    (x_NoDoor : ∃ nm q N bs bm sn sub ab col dd k0 k1 k2 k3 k5, K.lookup (A 20) = some (excClassObj nm q (A 20) N bs bm true sn sub ab col dd k0 k1 k2 k3 k5 "LookupError.__new__") ∧ refsT [.type "LookupError", .type "Exception", .type "BaseException", .type "object"] bm = true)
    (a_NoDoor : PySem.W.findIn K (.ref (A 20)) "__init__" = some (some (.ref f_NoDoor)))
    (t_NoDoor : PySem.W.typeIn K (.ref f_NoDoor) = some (.type "function"))
    (l_NoDoor : K.lookup f_NoDoor = some ⟨oc_NoDoor, od_NoDoor, .func (PySem.W.fnOf "__init__" "NoDoor.__init__" (defArgs s_NoDoor_init) (defBody s_NoDoor_init) (defScope s_NoDoor_init) .none kV_NoDoor dc_NoDoor pm_NoDoor an_NoDoor cd_NoDoor ct_NoDoor), sl_NoDoor⟩)
    (c_NoDoor : PySem.W.codeIn K cd_NoDoor "NoDoor.__init__" = true)
    (k_NoDoor : PySem.W.keepIn K (.ref f_NoDoor) = true)
    (nf_NoDoor : ∀ z ∈ (["name"] : List Str), PySem.W.findIn K (.ref (A 20)) z = some none)
    (x_NoBegin : ∃ nm q N bs bm sn sub ab col dd k0 k1 k2 k3 k5, K.lookup (A 21) = some (excClassObj nm q (A 21) N bs bm true sn sub ab col dd k0 k1 k2 k3 k5 "LookupError.__new__") ∧ refsT [.type "LookupError", .type "Exception", .type "BaseException", .type "object"] bm = true)
    (a_NoBegin : PySem.W.findIn K (.ref (A 21)) "__init__" = some (some (.ref f_NoBegin)))
    (t_NoBegin : PySem.W.typeIn K (.ref f_NoBegin) = some (.type "function"))
    (l_NoBegin : K.lookup f_NoBegin = some ⟨oc_NoBegin, od_NoBegin, .func (PySem.W.fnOf "__init__" "NoBegin.__init__" (defArgs s_NoBegin_init) (defBody s_NoBegin_init) (defScope s_NoBegin_init) .none kV_NoBegin dc_NoBegin pm_NoBegin an_NoBegin cd_NoBegin ct_NoBegin), sl_NoBegin⟩)
    (c_NoBegin : PySem.W.codeIn K cd_NoBegin "NoBegin.__init__" = true)
    (k_NoBegin : PySem.W.keepIn K (.ref f_NoBegin) = true)
    (nf_NoBegin : ∀ z ∈ (["index"] : List Str), PySem.W.findIn K (.ref (A 21)) z = some none)
    (x_NoOwner : ∃ nm q N bs bm sn sub ab col dd k0 k1 k2 k3 k5, K.lookup (A 22) = some (excClassObj nm q (A 22) N bs bm true sn sub ab col dd k0 k1 k2 k3 k5 "LookupError.__new__") ∧ refsT [.type "LookupError", .type "Exception", .type "BaseException", .type "object"] bm = true)
    (a_NoOwner : PySem.W.findIn K (.ref (A 22)) "__init__" = some (some (.ref f_NoOwner)))
    (t_NoOwner : PySem.W.typeIn K (.ref f_NoOwner) = some (.type "function"))
    (l_NoOwner : K.lookup f_NoOwner = some ⟨oc_NoOwner, od_NoOwner, .func (PySem.W.fnOf "__init__" "NoOwner.__init__" (defArgs s_NoOwner_init) (defBody s_NoOwner_init) (defScope s_NoOwner_init) .none kV_NoOwner dc_NoOwner pm_NoOwner an_NoOwner cd_NoOwner ct_NoOwner), sl_NoOwner⟩)
    (c_NoOwner : PySem.W.codeIn K cd_NoOwner "NoOwner.__init__" = true)
    (k_NoOwner : PySem.W.keepIn K (.ref f_NoOwner) = true)
    (nf_NoOwner : ∀ z ∈ (["owner"] : List Str), PySem.W.findIn K (.ref (A 22)) z = some none)
    (x_NoRow : ∃ nm q N bs bm sn sub ab col dd k0 k1 k2 k3 k5, K.lookup (A 23) = some (excClassObj nm q (A 23) N bs bm true sn sub ab col dd k0 k1 k2 k3 k5 "LookupError.__new__") ∧ refsT [.type "LookupError", .type "Exception", .type "BaseException", .type "object"] bm = true)
    (a_NoRow : PySem.W.findIn K (.ref (A 23)) "__init__" = some (some (.ref f_NoRow)))
    (t_NoRow : PySem.W.typeIn K (.ref f_NoRow) = some (.type "function"))
    (l_NoRow : K.lookup f_NoRow = some ⟨oc_NoRow, od_NoRow, .func (PySem.W.fnOf "__init__" "NoRow.__init__" (defArgs s_NoRow_init) (defBody s_NoRow_init) (defScope s_NoRow_init) .none kV_NoRow dc_NoRow pm_NoRow an_NoRow cd_NoRow ct_NoRow), sl_NoRow⟩)
    (c_NoRow : PySem.W.codeIn K cd_NoRow "NoRow.__init__" = true)
    (k_NoRow : PySem.W.keepIn K (.ref f_NoRow) = true)
    (nf_NoRow : ∀ z ∈ (["row"] : List Str), PySem.W.findIn K (.ref (A 23)) z = some none)
    (x_NoRule : ∃ nm q N bs bm sn sub ab col dd k0 k1 k2 k3 k5, K.lookup (A 24) = some (excClassObj nm q (A 24) N bs bm true sn sub ab col dd k0 k1 k2 k3 k5 "LookupError.__new__") ∧ refsT [.type "LookupError", .type "Exception", .type "BaseException", .type "object"] bm = true)
    (a_NoRule : PySem.W.findIn K (.ref (A 24)) "__init__" = some (some (.ref f_NoRule)))
    (t_NoRule : PySem.W.typeIn K (.ref f_NoRule) = some (.type "function"))
    (l_NoRule : K.lookup f_NoRule = some ⟨oc_NoRule, od_NoRule, .func (PySem.W.fnOf "__init__" "NoRule.__init__" (defArgs s_NoRule_init) (defBody s_NoRule_init) (defScope s_NoRule_init) .none kV_NoRule dc_NoRule pm_NoRule an_NoRule cd_NoRule ct_NoRule), sl_NoRule⟩)
    (c_NoRule : PySem.W.codeIn K cd_NoRule "NoRule.__init__" = true)
    (k_NoRule : PySem.W.keepIn K (.ref f_NoRule) = true)
    (nf_NoRule : ∀ z ∈ (["rule"] : List Str), PySem.W.findIn K (.ref (A 24)) z = some none)
    (x_NoDivisor : ∃ nm q N bs bm sn sub ab col dd k0 k1 k2 k3 k5, K.lookup (A 25) = some (excClassObj nm q (A 25) N bs bm true sn sub ab col dd k0 k1 k2 k3 k5 "ZeroDivisionError.__new__") ∧ refsT [.type "ZeroDivisionError", .type "ArithmeticError", .type "Exception", .type "BaseException", .type "object"] bm = true)
    (a_NoDivisor : PySem.W.findIn K (.ref (A 25)) "__init__" = some (some (.ref f_NoDivisor)))
    (t_NoDivisor : PySem.W.typeIn K (.ref f_NoDivisor) = some (.type "function"))
    (l_NoDivisor : K.lookup f_NoDivisor = some ⟨oc_NoDivisor, od_NoDivisor, .func (PySem.W.fnOf "__init__" "NoDivisor.__init__" (defArgs s_NoDivisor_init) (defBody s_NoDivisor_init) (defScope s_NoDivisor_init) .none kV_NoDivisor dc_NoDivisor pm_NoDivisor an_NoDivisor cd_NoDivisor ct_NoDivisor), sl_NoDivisor⟩)
    (c_NoDivisor : PySem.W.codeIn K cd_NoDivisor "NoDivisor.__init__" = true)
    (k_NoDivisor : PySem.W.keepIn K (.ref f_NoDivisor) = true)
    (nf_NoDivisor : ∀ z ∈ (["word"] : List Str), PySem.W.findIn K (.ref (A 25)) z = some none)
    (x_Waits : ∃ nm q N bs bm sn sub ab col dd k0 k1 k2 k3 k5, K.lookup (A 26) = some (excClassObj nm q (A 26) N bs bm true sn sub ab col dd k0 k1 k2 k3 k5 "RuntimeError.__new__") ∧ refsT [.type "RuntimeError", .type "Exception", .type "BaseException", .type "object"] bm = true)
    (a_Waits : PySem.W.findIn K (.ref (A 26)) "__init__" = some (some (.ref f_Waits)))
    (t_Waits : PySem.W.typeIn K (.ref f_Waits) = some (.type "function"))
    (l_Waits : K.lookup f_Waits = some ⟨oc_Waits, od_Waits, .func (PySem.W.fnOf "__init__" "Waits.__init__" (defArgs s_Waits_init) (defBody s_Waits_init) (defScope s_Waits_init) .none kV_Waits dc_Waits pm_Waits an_Waits cd_Waits ct_Waits), sl_Waits⟩)
    (c_Waits : PySem.W.codeIn K cd_Waits "Waits.__init__" = true)
    (k_Waits : PySem.W.keepIn K (.ref f_Waits) = true)
    (nf_Waits : ∀ z ∈ (["owner"] : List Str), PySem.W.findIn K (.ref (A 26)) z = some none)
    (x_Refused : ∃ nm q N bs bm sn sub ab col dd k0 k1 k2 k3 k5, K.lookup (A 27) = some (excClassObj nm q (A 27) N bs bm true sn sub ab col dd k0 k1 k2 k3 k5 "RuntimeError.__new__") ∧ refsT [.type "RuntimeError", .type "Exception", .type "BaseException", .type "object"] bm = true)
    (a_Refused : PySem.W.findIn K (.ref (A 27)) "__init__" = some (some (.ref f_Refused)))
    (t_Refused : PySem.W.typeIn K (.ref f_Refused) = some (.type "function"))
    (l_Refused : K.lookup f_Refused = some ⟨oc_Refused, od_Refused, .func (PySem.W.fnOf "__init__" "Refused.__init__" (defArgs s_Refused_init) (defBody s_Refused_init) (defScope s_Refused_init) .none kV_Refused dc_Refused pm_Refused an_Refused cd_Refused ct_Refused), sl_Refused⟩)
    (c_Refused : PySem.W.codeIn K cd_Refused "Refused.__init__" = true)
    (k_Refused : PySem.W.keepIn K (.ref f_Refused) = true)
    (nf_Refused : ∀ z ∈ (["door", "line", "why"] : List Str), PySem.W.findIn K (.ref (A 27)) z = some none)
    (x_Over : ∃ nm q N bs bm sn sub ab col dd k0 k1 k2 k3 k5, K.lookup (A 28) = some (excClassObj nm q (A 28) N bs bm true sn sub ab col dd k0 k1 k2 k3 k5 "RuntimeError.__new__") ∧ refsT [.type "RuntimeError", .type "Exception", .type "BaseException", .type "object"] bm = true)
    (a_Over : PySem.W.findIn K (.ref (A 28)) "__init__" = some (some (.ref f_Over)))
    (t_Over : PySem.W.typeIn K (.ref f_Over) = some (.type "function"))
    (l_Over : K.lookup f_Over = some ⟨oc_Over, od_Over, .func (PySem.W.fnOf "__init__" "Over.__init__" (defArgs s_Over_init) (defBody s_Over_init) (defScope s_Over_init) .none kV_Over dc_Over pm_Over an_Over cd_Over ct_Over), sl_Over⟩)
    (c_Over : PySem.W.codeIn K cd_Over "Over.__init__" = true)
    (k_Over : PySem.W.keepIn K (.ref f_Over) = true)
    (nf_Over : ∀ z ∈ (["number"] : List Str), PySem.W.findIn K (.ref (A 28)) z = some none)
    (x_Busy : ∃ nm q N bs bm sn sub ab col dd k0 k1 k2 k3 k5, K.lookup (A 29) = some (excClassObj nm q (A 29) N bs bm true sn sub ab col dd k0 k1 k2 k3 k5 "RuntimeError.__new__") ∧ refsT [.type "RuntimeError", .type "Exception", .type "BaseException", .type "object"] bm = true)
    (a_Busy : PySem.W.findIn K (.ref (A 29)) "__init__" = some (some (.ref f_Busy)))
    (t_Busy : PySem.W.typeIn K (.ref f_Busy) = some (.type "function"))
    (l_Busy : K.lookup f_Busy = some ⟨oc_Busy, od_Busy, .func (PySem.W.fnOf "__init__" "Busy.__init__" (defArgs s_Busy_init) (defBody s_Busy_init) (defScope s_Busy_init) .none kV_Busy dc_Busy pm_Busy an_Busy cd_Busy ct_Busy), sl_Busy⟩)
    (c_Busy : PySem.W.codeIn K cd_Busy "Busy.__init__" = true)
    (k_Busy : PySem.W.keepIn K (.ref f_Busy) = true)
    (nf_Busy : ∀ z ∈ (["owner"] : List Str), PySem.W.findIn K (.ref (A 29)) z = some none)
    (z_len : PySem.W.nsIn K mainGlobals "len" = some none)
    (z_int : PySem.W.nsIn K mainGlobals "int" = some none)
    (z_abs : PySem.W.nsIn K mainGlobals "abs" = some none)
    (z_list : PySem.W.nsIn K mainGlobals "list" = some none)
    (z_range : PySem.W.nsIn K mainGlobals "range" = some none)
    (z_sorted : PySem.W.nsIn K mainGlobals "sorted" = some none)
    (z_str : PySem.W.nsIn K mainGlobals "str" = some none)
    (z_isinstance : PySem.W.nsIn K mainGlobals "isinstance" = some none)
    (z_sum : PySem.W.nsIn K mainGlobals "sum" = some none)
    (z_tuple : PySem.W.nsIn K mainGlobals "tuple" = some none)
    (z_dict : PySem.W.nsIn K mainGlobals "dict" = some none)
    (z_all : PySem.W.nsIn K mainGlobals "all" = some none)
    (z_bool : PySem.W.nsIn K mainGlobals "bool" = some none)
    (z_enumerate : PySem.W.nsIn K mainGlobals "enumerate" = some none)
    (z_ValueError : PySem.W.nsIn K mainGlobals "ValueError" = some none)
    (z_LookupError : PySem.W.nsIn K mainGlobals "LookupError" = some none)
    (z_ZeroDivisionError : PySem.W.nsIn K mainGlobals "ZeroDivisionError" = some none)
    (z_RuntimeError : PySem.W.nsIn K mainGlobals "RuntimeError" = some none)
    : ∃ fd : FuncData, (∀ (s : Shared) (v : Value), BindsTo s fd ⟨[v], []⟩ [("_law_script", v)]) ∧ ∀ base : Heap, K.In base → base.Ns mainGlobals mg → FnOk l.prog w K mg base CX0 5 fa fd ["_law_script"] (spLaw33 K) := by
  have e := hfa.symm.trans (PySem.W.mg_of X G a_law)
  cases e
  have g : Bi mg := ⟨PySem.W.mg_none_of X G z_len, PySem.W.mg_none_of X G z_int, PySem.W.mg_none_of X G z_abs, PySem.W.mg_none_of X G z_list, PySem.W.mg_none_of X G z_range, PySem.W.mg_none_of X G z_sorted, PySem.W.mg_none_of X G z_str, PySem.W.mg_none_of X G z_isinstance, PySem.W.mg_none_of X G z_sum, PySem.W.mg_none_of X G z_tuple, PySem.W.mg_none_of X G z_dict, PySem.W.mg_none_of X G z_all, PySem.W.mg_none_of X G z_bool, PySem.W.mg_none_of X G z_enumerate⟩
  have F_source := fun_mk (st := s_l_source) l_source c_source k_source
  have b_source := F_source.binds (ps := ["_law_script"]) fun _ _ _ _ _ _ us hl => match us, hl with | [_], _ => rfl
  have F_mixed := fun_mk (st := s_l_mixed) l_mixed c_mixed k_mixed
  have b_mixed := F_mixed.binds (ps := ["_law_cell", "_law_count"]) fun _ _ _ _ _ _ us hl => match us, hl with | [_, _], _ => rfl
  have F_draw := fun_mk (st := s_l_draw) l_draw c_draw k_draw
  have b_draw := F_draw.binds (ps := ["_law_source_here", "_law_size"]) fun _ _ _ _ _ _ us hl => match us, hl with | [_, _], _ => rfl
  have F_word := fun_mk (st := s_l_word) l_word c_word k_word
  have b_word := F_word.binds (ps := ["_law_source_here"]) fun _ _ _ _ _ _ us hl => match us, hl with | [_], _ => rfl
  have F_number := fun_mk (st := s_l_number) l_number c_number k_number
  have b_number := F_number.binds (ps := ["_law_source_here"]) fun _ _ _ _ _ _ us hl => match us, hl with | [_], _ => rfl
  have F_value := fun_mk (st := s_l_value) l_value c_value k_value
  have b_value := F_value.binds (ps := ["_law_source_here"]) fun _ _ _ _ _ _ us hl => match us, hl with | [_], _ => rfl
  have F_first := fun_mk (st := s_l_first) l_first c_first k_first
  have b_first := F_first.binds (ps := ["_law_e"]) fun _ _ _ _ _ _ us hl => match us, hl with | [_], _ => rfl
  have F_second := fun_mk (st := s_l_second) l_second c_second k_second
  have b_second := F_second.binds (ps := ["_law_e"]) fun _ _ _ _ _ _ us hl => match us, hl with | [_], _ => rfl
  have F_bases := fun_mk (st := s_l_bases) l_bases c_bases k_bases
  have b_bases := F_bases.binds (ps := ["_law_e"]) fun _ _ _ _ _ _ us hl => match us, hl with | [_], _ => rfl
  have F_row := fun_mk (st := s_l_row) l_row c_row k_row
  have b_row := F_row.binds (ps := ["_law_at", "_law_many"]) fun _ _ _ _ _ _ us hl => match us, hl with | [_, _], _ => rfl
  have F_values := fun_mk (st := s_l_values) l_values c_values k_values
  have b_values := F_values.binds (ps := ["_law_one", "_law_two", "_law_three"]) fun _ _ _ _ _ _ us hl => match us, hl with | [_, _, _], _ => rfl
  have F_law := fun_mk (st := s_law) l_law c_law k_law
  have b_law := F_law.binds (ps := ["_law_script"]) fun _ _ _ _ _ _ us hl => match us, hl with | [_], _ => rfl
  have F_BadWord := fun_mk (st := s_BadWord_init) l_BadWord c_BadWord k_BadWord
  have b_BadWord := F_BadWord.binds (ps := ["self", "word"]) fun _ _ _ _ _ _ us hl => match us, hl with | [_, _], _ => rfl
  have F_BadNumber := fun_mk (st := s_BadNumber_init) l_BadNumber c_BadNumber k_BadNumber
  have b_BadNumber := F_BadNumber.binds (ps := ["self", "number"]) fun _ _ _ _ _ _ us hl => match us, hl with | [_, _], _ => rfl
  have F_BadCounts := fun_mk (st := s_BadCounts_init) l_BadCounts c_BadCounts k_BadCounts
  have b_BadCounts := F_BadCounts.binds (ps := ["self", "at"]) fun _ _ _ _ _ _ us hl => match us, hl with | [_, _], _ => rfl
  have F_BadRule := fun_mk (st := s_BadRule_init) l_BadRule c_BadRule k_BadRule
  have b_BadRule := F_BadRule.binds (ps := ["self", "what"]) fun _ _ _ _ _ _ us hl => match us, hl with | [_, _], _ => rfl
  have F_BadRules := fun_mk (st := s_BadRules_init) l_BadRules c_BadRules k_BadRules
  have b_BadRules := F_BadRules.binds (ps := ["self", "what"]) fun _ _ _ _ _ _ us hl => match us, hl with | [_, _], _ => rfl
  have F_BadDoor := fun_mk (st := s_BadDoor_init) l_BadDoor c_BadDoor k_BadDoor
  have b_BadDoor := F_BadDoor.binds (ps := ["self", "at"]) fun _ _ _ _ _ _ us hl => match us, hl with | [_, _], _ => rfl
  have F_Unfit := fun_mk (st := s_Unfit_init) l_Unfit c_Unfit k_Unfit
  have b_Unfit := F_Unfit.binds (ps := ["self", "door", "line"]) fun _ _ _ _ _ _ us hl => match us, hl with | [_, _, _], _ => rfl
  have F_BadDesk := fun_mk (st := s_BadDesk_init) l_BadDesk c_BadDesk k_BadDesk
  have b_BadDesk := F_BadDesk.binds (ps := ["self", "what"]) fun _ _ _ _ _ _ us hl => match us, hl with | [_, _], _ => rfl
  have F_BadText := fun_mk (st := s_BadText_init) l_BadText c_BadText k_BadText
  have b_BadText := F_BadText.binds (ps := ["self", "at"]) fun _ _ _ _ _ _ us hl => match us, hl with | [_, _], _ => rfl
  have F_NotLoose := fun_mk (st := s_NotLoose_init) l_NotLoose c_NotLoose k_NotLoose
  have b_NotLoose := F_NotLoose.binds (ps := ["self", "kind"]) fun _ _ _ _ _ _ us hl => match us, hl with | [_, _], _ => rfl
  have F_Named := fun_mk (st := s_Named_init) l_Named c_Named k_Named
  have b_Named := F_Named.binds (ps := ["self", "row"]) fun _ _ _ _ _ _ us hl => match us, hl with | [_, _], _ => rfl
  have F_Full := fun_mk (st := s_Full_init) l_Full c_Full k_Full
  have b_Full := F_Full.binds (ps := ["self", "owner"]) fun _ _ _ _ _ _ us hl => match us, hl with | [_, _], _ => rfl
  have F_NoPick := fun_mk (st := s_NoPick_init) l_NoPick c_NoPick k_NoPick
  have b_NoPick := F_NoPick.binds (ps := ["self", "pick"]) fun _ _ _ _ _ _ us hl => match us, hl with | [_, _], _ => rfl
  have F_Broken := fun_mk (st := s_Broken_init) l_Broken c_Broken k_Broken
  have b_Broken := F_Broken.binds (ps := ["self", "rules"]) fun _ _ _ _ _ _ us hl => match us, hl with | [_, _], _ => rfl
  have F_BadHistory := fun_mk (st := s_BadHistory_init) l_BadHistory c_BadHistory k_BadHistory
  have b_BadHistory := F_BadHistory.binds (ps := ["self", "at"]) fun _ _ _ _ _ _ us hl => match us, hl with | [_, _], _ => rfl
  have F_BadStanding := fun_mk (st := s_BadStanding_init) l_BadStanding c_BadStanding k_BadStanding
  have b_BadStanding := F_BadStanding.binds (ps := ["self", "standing"]) fun _ _ _ _ _ _ us hl => match us, hl with | [_, _], _ => rfl
  have F_BadWay := fun_mk (st := s_BadWay_init) l_BadWay c_BadWay k_BadWay
  have b_BadWay := F_BadWay.binds (ps := ["self", "at"]) fun _ _ _ _ _ _ us hl => match us, hl with | [_, _], _ => rfl
  have F_NoWay := fun_mk (st := s_NoWay_init) l_NoWay c_NoWay k_NoWay
  have b_NoWay := F_NoWay.binds (ps := ["self", "standing"]) fun _ _ _ _ _ _ us hl => match us, hl with | [_, _], _ => rfl
  have F_TooMany := fun_mk (st := s_TooMany_init) l_TooMany c_TooMany k_TooMany
  have b_TooMany := F_TooMany.binds (ps := ["self", "what"]) fun _ _ _ _ _ _ us hl => match us, hl with | [_, _], _ => rfl
  have F_NoDoor := fun_mk (st := s_NoDoor_init) l_NoDoor c_NoDoor k_NoDoor
  have b_NoDoor := F_NoDoor.binds (ps := ["self", "name"]) fun _ _ _ _ _ _ us hl => match us, hl with | [_, _], _ => rfl
  have F_NoBegin := fun_mk (st := s_NoBegin_init) l_NoBegin c_NoBegin k_NoBegin
  have b_NoBegin := F_NoBegin.binds (ps := ["self", "index"]) fun _ _ _ _ _ _ us hl => match us, hl with | [_, _], _ => rfl
  have F_NoOwner := fun_mk (st := s_NoOwner_init) l_NoOwner c_NoOwner k_NoOwner
  have b_NoOwner := F_NoOwner.binds (ps := ["self", "owner"]) fun _ _ _ _ _ _ us hl => match us, hl with | [_, _], _ => rfl
  have F_NoRow := fun_mk (st := s_NoRow_init) l_NoRow c_NoRow k_NoRow
  have b_NoRow := F_NoRow.binds (ps := ["self", "row"]) fun _ _ _ _ _ _ us hl => match us, hl with | [_, _], _ => rfl
  have F_NoRule := fun_mk (st := s_NoRule_init) l_NoRule c_NoRule k_NoRule
  have b_NoRule := F_NoRule.binds (ps := ["self", "rule"]) fun _ _ _ _ _ _ us hl => match us, hl with | [_, _], _ => rfl
  have F_NoDivisor := fun_mk (st := s_NoDivisor_init) l_NoDivisor c_NoDivisor k_NoDivisor
  have b_NoDivisor := F_NoDivisor.binds (ps := ["self", "word"]) fun _ _ _ _ _ _ us hl => match us, hl with | [_, _], _ => rfl
  have F_Waits := fun_mk (st := s_Waits_init) l_Waits c_Waits k_Waits
  have b_Waits := F_Waits.binds (ps := ["self", "owner"]) fun _ _ _ _ _ _ us hl => match us, hl with | [_, _], _ => rfl
  have F_Refused := fun_mk (st := s_Refused_init) l_Refused c_Refused k_Refused
  have b_Refused := F_Refused.binds (ps := ["self", "door", "line", "why"]) fun _ _ _ _ _ _ us hl => match us, hl with | [_, _, _, _], _ => rfl
  have F_Over := fun_mk (st := s_Over_init) l_Over c_Over k_Over
  have b_Over := F_Over.binds (ps := ["self", "number"]) fun _ _ _ _ _ _ us hl => match us, hl with | [_, _], _ => rfl
  have F_Busy := fun_mk (st := s_Busy_init) l_Busy c_Busy k_Busy
  have b_Busy := F_Busy.binds (ps := ["self", "owner"]) fun _ _ _ _ _ _ us hl => match us, hl with | [_, _], _ => rfl
  refine ⟨PySem.W.fnOf "law" "law" (defArgs s_law) (defBody s_law) (defScope s_law) .none kV_law dc_law pm_law an_law cd_law ct_law, fun s v => .of_eq rfl, fun base _ _ => ?_⟩
  have M := fun {x : Str} {v : Value} (a : PySem.W.nsIn K mainGlobals x = some (some v)) => PySem.W.mg_of X G a
  have FSO : Def l.prog w K mg base CX0 1 "_law_source" ["_law_script"] (spSource K) f_source _ := ⟨ok_source F_source g, M a_source, k_source, b_source⟩
  have FDR : Def l.prog w K mg base CX0 2 "_law_draw" ["_law_source_here", "_law_size"] spDraw f_draw _ := ⟨ok_draw F_draw g F_mixed (M a_mixed) b_mixed, M a_draw, k_draw, b_draw⟩
  have FWD : Def l.prog w K mg base CX0 3 "_law_word" ["_law_source_here"] spWord f_word _ := ⟨ok_word F_word g FDR, M a_word, k_word, b_word⟩
  have FNU : Def l.prog w K mg base CX0 3 "_law_number" ["_law_source_here"] spNumber f_number _ := ⟨ok_number F_number g FDR, M a_number, k_number, b_number⟩
  have E : E30 K mg A ce := ⟨fun i hi => M (t_m i hi), M a_ce, fun i hi => ⟨t_hg i hi, t_hk i hi, t_hs i hi, t_hd i hi, t_ha i hi, ch_R, ct_R, t_hm i hi⟩, fun i j hi hj => t_kit i hi j hj, t_k0, t_k1, t_k2, t_k3, t_k4⟩
  have OBadWord : OexA K (A 0) := ⟨⟨_, _, _, _, base_V, x_BadWord⟩, t_sa 0 (by decide), t_hs 0 (by decide), t_ty 0 (by decide), t_kc 0 (by decide)⟩
  have XBadWord : EDf l.prog w K mg base "BadWord" (A 0) f_BadWord ["word"] _ := ⟨OBadWord, a_BadWord, t_BadWord, ok_xBadWord F_BadWord OBadWord (nf_BadWord _ (by simp)), b_BadWord, E.m 0 (by decide), nf_BadWord⟩
  have OBadNumber : OexA K (A 1) := ⟨⟨_, _, _, _, base_V, x_BadNumber⟩, t_sa 1 (by decide), t_hs 1 (by decide), t_ty 1 (by decide), t_kc 1 (by decide)⟩
  have XBadNumber : EDf l.prog w K mg base "BadNumber" (A 1) f_BadNumber ["number"] _ := ⟨OBadNumber, a_BadNumber, t_BadNumber, ok_xBadNumber F_BadNumber OBadNumber (nf_BadNumber _ (by simp)), b_BadNumber, E.m 1 (by decide), nf_BadNumber⟩
  have OBadCounts : OexA K (A 2) := ⟨⟨_, _, _, _, base_V, x_BadCounts⟩, t_sa 2 (by decide), t_hs 2 (by decide), t_ty 2 (by decide), t_kc 2 (by decide)⟩
  have XBadCounts : EDf l.prog w K mg base "BadCounts" (A 2) f_BadCounts ["at"] _ := ⟨OBadCounts, a_BadCounts, t_BadCounts, ok_xBadCounts F_BadCounts OBadCounts (nf_BadCounts _ (by simp)), b_BadCounts, E.m 2 (by decide), nf_BadCounts⟩
  have OBadRule : OexA K (A 3) := ⟨⟨_, _, _, _, base_V, x_BadRule⟩, t_sa 3 (by decide), t_hs 3 (by decide), t_ty 3 (by decide), t_kc 3 (by decide)⟩
  have XBadRule : EDf l.prog w K mg base "BadRule" (A 3) f_BadRule ["what"] _ := ⟨OBadRule, a_BadRule, t_BadRule, ok_xBadRule F_BadRule OBadRule (nf_BadRule _ (by simp)), b_BadRule, E.m 3 (by decide), nf_BadRule⟩
  have OBadRules : OexA K (A 4) := ⟨⟨_, _, _, _, base_V, x_BadRules⟩, t_sa 4 (by decide), t_hs 4 (by decide), t_ty 4 (by decide), t_kc 4 (by decide)⟩
  have XBadRules : EDf l.prog w K mg base "BadRules" (A 4) f_BadRules ["what"] _ := ⟨OBadRules, a_BadRules, t_BadRules, ok_xBadRules F_BadRules OBadRules (nf_BadRules _ (by simp)), b_BadRules, E.m 4 (by decide), nf_BadRules⟩
  have OBadDoor : OexA K (A 5) := ⟨⟨_, _, _, _, base_V, x_BadDoor⟩, t_sa 5 (by decide), t_hs 5 (by decide), t_ty 5 (by decide), t_kc 5 (by decide)⟩
  have XBadDoor : EDf l.prog w K mg base "BadDoor" (A 5) f_BadDoor ["at"] _ := ⟨OBadDoor, a_BadDoor, t_BadDoor, ok_xBadDoor F_BadDoor OBadDoor (nf_BadDoor _ (by simp)), b_BadDoor, E.m 5 (by decide), nf_BadDoor⟩
  have OUnfit : OexA K (A 6) := ⟨⟨_, _, _, _, base_V, x_Unfit⟩, t_sa 6 (by decide), t_hs 6 (by decide), t_ty 6 (by decide), t_kc 6 (by decide)⟩
  have XUnfit : EDf l.prog w K mg base "Unfit" (A 6) f_Unfit ["door", "line"] _ := ⟨OUnfit, a_Unfit, t_Unfit, ok_xUnfit F_Unfit OUnfit (nf_Unfit _ (by simp)) (nf_Unfit _ (by simp)), b_Unfit, E.m 6 (by decide), nf_Unfit⟩
  have OBadDesk : OexA K (A 7) := ⟨⟨_, _, _, _, base_V, x_BadDesk⟩, t_sa 7 (by decide), t_hs 7 (by decide), t_ty 7 (by decide), t_kc 7 (by decide)⟩
  have XBadDesk : EDf l.prog w K mg base "BadDesk" (A 7) f_BadDesk ["what"] _ := ⟨OBadDesk, a_BadDesk, t_BadDesk, ok_xBadDesk F_BadDesk OBadDesk (nf_BadDesk _ (by simp)), b_BadDesk, E.m 7 (by decide), nf_BadDesk⟩
  have OBadText : OexA K (A 8) := ⟨⟨_, _, _, _, base_V, x_BadText⟩, t_sa 8 (by decide), t_hs 8 (by decide), t_ty 8 (by decide), t_kc 8 (by decide)⟩
  have XBadText : EDf l.prog w K mg base "BadText" (A 8) f_BadText ["at"] _ := ⟨OBadText, a_BadText, t_BadText, ok_xBadText F_BadText OBadText (nf_BadText _ (by simp)), b_BadText, E.m 8 (by decide), nf_BadText⟩
  have ONotLoose : OexA K (A 9) := ⟨⟨_, _, _, _, base_V, x_NotLoose⟩, t_sa 9 (by decide), t_hs 9 (by decide), t_ty 9 (by decide), t_kc 9 (by decide)⟩
  have XNotLoose : EDf l.prog w K mg base "NotLoose" (A 9) f_NotLoose ["kind"] _ := ⟨ONotLoose, a_NotLoose, t_NotLoose, ok_xNotLoose F_NotLoose ONotLoose (nf_NotLoose _ (by simp)), b_NotLoose, E.m 9 (by decide), nf_NotLoose⟩
  have ONamed : OexA K (A 10) := ⟨⟨_, _, _, _, base_V, x_Named⟩, t_sa 10 (by decide), t_hs 10 (by decide), t_ty 10 (by decide), t_kc 10 (by decide)⟩
  have XNamed : EDf l.prog w K mg base "Named" (A 10) f_Named ["row"] _ := ⟨ONamed, a_Named, t_Named, ok_xNamed F_Named ONamed (nf_Named _ (by simp)), b_Named, E.m 10 (by decide), nf_Named⟩
  have OFull : OexA K (A 11) := ⟨⟨_, _, _, _, base_V, x_Full⟩, t_sa 11 (by decide), t_hs 11 (by decide), t_ty 11 (by decide), t_kc 11 (by decide)⟩
  have XFull : EDf l.prog w K mg base "Full" (A 11) f_Full ["owner"] _ := ⟨OFull, a_Full, t_Full, ok_xFull F_Full OFull (nf_Full _ (by simp)), b_Full, E.m 11 (by decide), nf_Full⟩
  have ONoPick : OexA K (A 12) := ⟨⟨_, _, _, _, base_V, x_NoPick⟩, t_sa 12 (by decide), t_hs 12 (by decide), t_ty 12 (by decide), t_kc 12 (by decide)⟩
  have XNoPick : EDf l.prog w K mg base "NoPick" (A 12) f_NoPick ["pick"] _ := ⟨ONoPick, a_NoPick, t_NoPick, ok_xNoPick F_NoPick ONoPick (nf_NoPick _ (by simp)), b_NoPick, E.m 12 (by decide), nf_NoPick⟩
  have OBroken : OexA K (A 13) := ⟨⟨_, _, _, _, base_V, x_Broken⟩, t_sa 13 (by decide), t_hs 13 (by decide), t_ty 13 (by decide), t_kc 13 (by decide)⟩
  have XBroken : EDf l.prog w K mg base "Broken" (A 13) f_Broken ["rules"] _ := ⟨OBroken, a_Broken, t_Broken, ok_xBroken F_Broken OBroken (nf_Broken _ (by simp)), b_Broken, E.m 13 (by decide), nf_Broken⟩
  have OBadHistory : OexA K (A 14) := ⟨⟨_, _, _, _, base_V, x_BadHistory⟩, t_sa 14 (by decide), t_hs 14 (by decide), t_ty 14 (by decide), t_kc 14 (by decide)⟩
  have XBadHistory : EDf l.prog w K mg base "BadHistory" (A 14) f_BadHistory ["at"] _ := ⟨OBadHistory, a_BadHistory, t_BadHistory, ok_xBadHistory F_BadHistory OBadHistory (nf_BadHistory _ (by simp)), b_BadHistory, E.m 14 (by decide), nf_BadHistory⟩
  have OBadStanding : OexA K (A 15) := ⟨⟨_, _, _, _, base_V, x_BadStanding⟩, t_sa 15 (by decide), t_hs 15 (by decide), t_ty 15 (by decide), t_kc 15 (by decide)⟩
  have XBadStanding : EDf l.prog w K mg base "BadStanding" (A 15) f_BadStanding ["standing"] _ := ⟨OBadStanding, a_BadStanding, t_BadStanding, ok_xBadStanding F_BadStanding OBadStanding (nf_BadStanding _ (by simp)), b_BadStanding, E.m 15 (by decide), nf_BadStanding⟩
  have OBadWay : OexA K (A 16) := ⟨⟨_, _, _, _, base_V, x_BadWay⟩, t_sa 16 (by decide), t_hs 16 (by decide), t_ty 16 (by decide), t_kc 16 (by decide)⟩
  have XBadWay : EDf l.prog w K mg base "BadWay" (A 16) f_BadWay ["at"] _ := ⟨OBadWay, a_BadWay, t_BadWay, ok_xBadWay F_BadWay OBadWay (nf_BadWay _ (by simp)), b_BadWay, E.m 16 (by decide), nf_BadWay⟩
  have ONoWay : OexA K (A 17) := ⟨⟨_, _, _, _, base_V, x_NoWay⟩, t_sa 17 (by decide), t_hs 17 (by decide), t_ty 17 (by decide), t_kc 17 (by decide)⟩
  have XNoWay : EDf l.prog w K mg base "NoWay" (A 17) f_NoWay ["standing"] _ := ⟨ONoWay, a_NoWay, t_NoWay, ok_xNoWay F_NoWay ONoWay (nf_NoWay _ (by simp)), b_NoWay, E.m 17 (by decide), nf_NoWay⟩
  have OTooMany : OexA K (A 19) := ⟨⟨_, _, _, _, base_V, x_TooMany⟩, t_sa 19 (by decide), t_hs 19 (by decide), t_ty 19 (by decide), t_kc 19 (by decide)⟩
  have XTooMany : EDf l.prog w K mg base "TooMany" (A 19) f_TooMany ["what"] _ := ⟨OTooMany, a_TooMany, t_TooMany, ok_xTooMany F_TooMany OTooMany (nf_TooMany _ (by simp)), b_TooMany, E.m 19 (by decide), nf_TooMany⟩
  have ONoDoor : OexA K (A 20) := ⟨⟨_, _, _, _, base_L, x_NoDoor⟩, t_sa 20 (by decide), t_hs 20 (by decide), t_ty 20 (by decide), t_kc 20 (by decide)⟩
  have XNoDoor : EDf l.prog w K mg base "NoDoor" (A 20) f_NoDoor ["name"] _ := ⟨ONoDoor, a_NoDoor, t_NoDoor, ok_xNoDoor F_NoDoor ONoDoor (nf_NoDoor _ (by simp)), b_NoDoor, E.m 20 (by decide), nf_NoDoor⟩
  have ONoBegin : OexA K (A 21) := ⟨⟨_, _, _, _, base_L, x_NoBegin⟩, t_sa 21 (by decide), t_hs 21 (by decide), t_ty 21 (by decide), t_kc 21 (by decide)⟩
  have XNoBegin : EDf l.prog w K mg base "NoBegin" (A 21) f_NoBegin ["index"] _ := ⟨ONoBegin, a_NoBegin, t_NoBegin, ok_xNoBegin F_NoBegin ONoBegin (nf_NoBegin _ (by simp)), b_NoBegin, E.m 21 (by decide), nf_NoBegin⟩
  have ONoOwner : OexA K (A 22) := ⟨⟨_, _, _, _, base_L, x_NoOwner⟩, t_sa 22 (by decide), t_hs 22 (by decide), t_ty 22 (by decide), t_kc 22 (by decide)⟩
  have XNoOwner : EDf l.prog w K mg base "NoOwner" (A 22) f_NoOwner ["owner"] _ := ⟨ONoOwner, a_NoOwner, t_NoOwner, ok_xNoOwner F_NoOwner ONoOwner (nf_NoOwner _ (by simp)), b_NoOwner, E.m 22 (by decide), nf_NoOwner⟩
  have ONoRow : OexA K (A 23) := ⟨⟨_, _, _, _, base_L, x_NoRow⟩, t_sa 23 (by decide), t_hs 23 (by decide), t_ty 23 (by decide), t_kc 23 (by decide)⟩
  have XNoRow : EDf l.prog w K mg base "NoRow" (A 23) f_NoRow ["row"] _ := ⟨ONoRow, a_NoRow, t_NoRow, ok_xNoRow F_NoRow ONoRow (nf_NoRow _ (by simp)), b_NoRow, E.m 23 (by decide), nf_NoRow⟩
  have ONoRule : OexA K (A 24) := ⟨⟨_, _, _, _, base_L, x_NoRule⟩, t_sa 24 (by decide), t_hs 24 (by decide), t_ty 24 (by decide), t_kc 24 (by decide)⟩
  have XNoRule : EDf l.prog w K mg base "NoRule" (A 24) f_NoRule ["rule"] _ := ⟨ONoRule, a_NoRule, t_NoRule, ok_xNoRule F_NoRule ONoRule (nf_NoRule _ (by simp)), b_NoRule, E.m 24 (by decide), nf_NoRule⟩
  have ONoDivisor : OexA K (A 25) := ⟨⟨_, _, _, _, base_Z, x_NoDivisor⟩, t_sa 25 (by decide), t_hs 25 (by decide), t_ty 25 (by decide), t_kc 25 (by decide)⟩
  have XNoDivisor : EDf l.prog w K mg base "NoDivisor" (A 25) f_NoDivisor ["word"] _ := ⟨ONoDivisor, a_NoDivisor, t_NoDivisor, ok_xNoDivisor F_NoDivisor ONoDivisor (nf_NoDivisor _ (by simp)), b_NoDivisor, E.m 25 (by decide), nf_NoDivisor⟩
  have OWaits : OexA K (A 26) := ⟨⟨_, _, _, _, base_R, x_Waits⟩, t_sa 26 (by decide), t_hs 26 (by decide), t_ty 26 (by decide), t_kc 26 (by decide)⟩
  have XWaits : EDf l.prog w K mg base "Waits" (A 26) f_Waits ["owner"] _ := ⟨OWaits, a_Waits, t_Waits, ok_xWaits F_Waits OWaits (nf_Waits _ (by simp)), b_Waits, E.m 26 (by decide), nf_Waits⟩
  have ORefused : OexA K (A 27) := ⟨⟨_, _, _, _, base_R, x_Refused⟩, t_sa 27 (by decide), t_hs 27 (by decide), t_ty 27 (by decide), t_kc 27 (by decide)⟩
  have XRefused : EDf l.prog w K mg base "Refused" (A 27) f_Refused ["door", "line", "why"] _ := ⟨ORefused, a_Refused, t_Refused, ok_xRefused F_Refused ORefused (nf_Refused _ (by simp)) (nf_Refused _ (by simp)) (nf_Refused _ (by simp)), b_Refused, E.m 27 (by decide), nf_Refused⟩
  have OOver : OexA K (A 28) := ⟨⟨_, _, _, _, base_R, x_Over⟩, t_sa 28 (by decide), t_hs 28 (by decide), t_ty 28 (by decide), t_kc 28 (by decide)⟩
  have XOver : EDf l.prog w K mg base "Over" (A 28) f_Over ["number"] _ := ⟨OOver, a_Over, t_Over, ok_xOver F_Over OOver (nf_Over _ (by simp)), b_Over, E.m 28 (by decide), nf_Over⟩
  have OBusy : OexA K (A 29) := ⟨⟨_, _, _, _, base_R, x_Busy⟩, t_sa 29 (by decide), t_hs 29 (by decide), t_ty 29 (by decide), t_kc 29 (by decide)⟩
  have XBusy : EDf l.prog w K mg base "Busy" (A 29) f_Busy ["owner"] _ := ⟨OBusy, a_Busy, t_Busy, ok_xBusy F_Busy OBusy (nf_Busy _ (by simp)), b_Busy, E.m 29 (by decide), nf_Busy⟩
  have FVA : Def l.prog w K mg base CX0 4 "_law_value" ["_law_source_here"] spValue f_value _ := ⟨ok_value F_value g FDR FNU FWD, M a_value, k_value, b_value⟩
  have FFI : Def l.prog w K mg base CX0 1 "_law_first" ["_law_e"] (spIsE A (fun i j => decide (i = j)) 20) f_first _ := ⟨ok_first F_first g E, M a_first, k_first, b_first⟩
  have FSE : Def l.prog w K mg base CX0 1 "_law_second" ["_law_e"] (spIsE A (fun i j => decide (i = j + 20)) 10) f_second _ := ⟨ok_second F_second g E, M a_second, k_second, b_second⟩
  have FBA : Def l.prog w K mg base CX0 1 "_law_bases" ["_law_e"] (spIsE A baseF 5) f_bases _ := ⟨ok_bases F_bases g E (PySem.W.mg_none_of X G z_ValueError) (PySem.W.mg_none_of X G z_LookupError) (PySem.W.mg_none_of X G z_ZeroDivisionError) (PySem.W.mg_none_of X G z_RuntimeError), M a_bases, k_bases, b_bases⟩
  have FRO : Def l.prog w K mg base CX0 1 "_law_row" ["_law_at", "_law_many"] spRow f_row _ := ⟨ok_row F_row g, M a_row, k_row, b_row⟩
  have FVS : Def l.prog w K mg base CX0 3 "_law_values" ["_law_one", "_law_two", "_law_three"] (spVals ()) f_values _ := ⟨ok_vals F_values g E XBadWord XBadNumber XBadCounts XBadRule XBadRules XBadDoor XUnfit XBadDesk XBadText XNotLoose XNamed XFull XNoPick XBroken XBadHistory XBadStanding XBadWay XNoWay XTooMany XNoDoor XNoBegin XNoOwner XNoRow XNoRule XNoDivisor XWaits XRefused XOver XBusy, M a_values, k_values, b_values⟩
  exact ok_law F_law g E XBadWord XBadNumber XBadCounts XBadRule XBadRules XBadDoor XUnfit XBadDesk XBadText XNotLoose XNamed XFull XNoPick XBroken XBadHistory XBadStanding XBadWay XNoWay XTooMany XNoDoor XNoBegin XNoOwner XNoRow XNoRule XNoDivisor XWaits XRefused XOver XBusy x_NotKept (t_kc 18 (by decide)) FSO FVA FFI FSE FBA FRO FVS
end Cs
namespace Cs
open PySem PySem.Spec PyProof.Rows L2
def tab30 (f : Nat → Bool) : Bool := (List.range 30).all f
theorem tab_ok {P : Nat → Prop} [∀ i, Decidable (P i)] (h : tab30 (fun i => decide (P i)) = true) : ∀ i, i < 30 → P i := fun i hi => of_decide_eq_true (List.all_eq_true.mp h i (List.mem_range.mpr hi))
theorem tabk_ok {P : Nat → Nat → Prop} [∀ i j, Decidable (P i j)] (h : tab30 (fun i => tab30 (fun j => decide (P i j))) = true) : ∀ i, i < 30 → ∀ j, j < 30 → P i j := fun i hi => tab_ok (List.all_eq_true.mp h i (List.mem_range.mpr hi))
def cA (K : Fr) (i : Nat) : Addr := He.ga K (enm.getD i "")
abbrev R0 : PySem.W.OpenRow := PySem.W.OpenLaw.row PySem.Challenge.rw_countsheld_k33_errors_made
def fd0 : FnA := ⟨fun K => (He.ga K "_law_source"), "_law_source", "_law_source", s_l_source, [], false⟩
def fd1 : FnA := ⟨fun K => (He.ga K "_law_mixed"), "_law_mixed", "_law_mixed", s_l_mixed, [], false⟩
def fd2 : FnA := ⟨fun K => (He.ga K "_law_draw"), "_law_draw", "_law_draw", s_l_draw, [], false⟩
def fd3 : FnA := ⟨fun K => (He.ga K "_law_word"), "_law_word", "_law_word", s_l_word, [], false⟩
def fd4 : FnA := ⟨fun K => (He.ga K "_law_number"), "_law_number", "_law_number", s_l_number, [], false⟩
def fd5 : FnA := ⟨fun K => (He.ga K "_law_value"), "_law_value", "_law_value", s_l_value, [], false⟩
def fd6 : FnA := ⟨fun K => (He.ga K "_law_first"), "_law_first", "_law_first", s_l_first, [], false⟩
def fd7 : FnA := ⟨fun K => (He.ga K "_law_second"), "_law_second", "_law_second", s_l_second, [], false⟩
def fd8 : FnA := ⟨fun K => (He.ga K "_law_bases"), "_law_bases", "_law_bases", s_l_bases, [], false⟩
def fd9 : FnA := ⟨fun K => (He.ga K "_law_row"), "_law_row", "_law_row", s_l_row, [], false⟩
def fd10 : FnA := ⟨fun K => (He.ga K "_law_values"), "_law_values", "_law_values", s_l_values, [], false⟩
def fd11 : FnA := ⟨fun K => (He.ga K "law"), "law", "law", s_law, [], false⟩
def fd12 : FnA := ⟨fun K => (He.ma K ((cA K) 0) "__init__"), "__init__", "BadWord.__init__", s_BadWord_init, [], false⟩
def fd13 : FnA := ⟨fun K => (He.ma K ((cA K) 1) "__init__"), "__init__", "BadNumber.__init__", s_BadNumber_init, [], false⟩
def fd14 : FnA := ⟨fun K => (He.ma K ((cA K) 2) "__init__"), "__init__", "BadCounts.__init__", s_BadCounts_init, [], false⟩
def fd15 : FnA := ⟨fun K => (He.ma K ((cA K) 3) "__init__"), "__init__", "BadRule.__init__", s_BadRule_init, [], false⟩
def fd16 : FnA := ⟨fun K => (He.ma K ((cA K) 4) "__init__"), "__init__", "BadRules.__init__", s_BadRules_init, [], false⟩
def fd17 : FnA := ⟨fun K => (He.ma K ((cA K) 5) "__init__"), "__init__", "BadDoor.__init__", s_BadDoor_init, [], false⟩
def fd18 : FnA := ⟨fun K => (He.ma K ((cA K) 6) "__init__"), "__init__", "Unfit.__init__", s_Unfit_init, [], false⟩
def fd19 : FnA := ⟨fun K => (He.ma K ((cA K) 7) "__init__"), "__init__", "BadDesk.__init__", s_BadDesk_init, [], false⟩
def fd20 : FnA := ⟨fun K => (He.ma K ((cA K) 8) "__init__"), "__init__", "BadText.__init__", s_BadText_init, [], false⟩
def fd21 : FnA := ⟨fun K => (He.ma K ((cA K) 9) "__init__"), "__init__", "NotLoose.__init__", s_NotLoose_init, [], false⟩
def fd22 : FnA := ⟨fun K => (He.ma K ((cA K) 10) "__init__"), "__init__", "Named.__init__", s_Named_init, [], false⟩
def fd23 : FnA := ⟨fun K => (He.ma K ((cA K) 11) "__init__"), "__init__", "Full.__init__", s_Full_init, [], false⟩
def fd24 : FnA := ⟨fun K => (He.ma K ((cA K) 12) "__init__"), "__init__", "NoPick.__init__", s_NoPick_init, [], false⟩
def fd25 : FnA := ⟨fun K => (He.ma K ((cA K) 13) "__init__"), "__init__", "Broken.__init__", s_Broken_init, [], false⟩
def fd26 : FnA := ⟨fun K => (He.ma K ((cA K) 14) "__init__"), "__init__", "BadHistory.__init__", s_BadHistory_init, [], false⟩
def fd27 : FnA := ⟨fun K => (He.ma K ((cA K) 15) "__init__"), "__init__", "BadStanding.__init__", s_BadStanding_init, [], false⟩
def fd28 : FnA := ⟨fun K => (He.ma K ((cA K) 16) "__init__"), "__init__", "BadWay.__init__", s_BadWay_init, [], false⟩
def fd29 : FnA := ⟨fun K => (He.ma K ((cA K) 17) "__init__"), "__init__", "NoWay.__init__", s_NoWay_init, [], false⟩
def fd30 : FnA := ⟨fun K => (He.ma K ((cA K) 19) "__init__"), "__init__", "TooMany.__init__", s_TooMany_init, [], false⟩
def fd31 : FnA := ⟨fun K => (He.ma K ((cA K) 20) "__init__"), "__init__", "NoDoor.__init__", s_NoDoor_init, [], false⟩
def fd32 : FnA := ⟨fun K => (He.ma K ((cA K) 21) "__init__"), "__init__", "NoBegin.__init__", s_NoBegin_init, [], false⟩
def fd33 : FnA := ⟨fun K => (He.ma K ((cA K) 22) "__init__"), "__init__", "NoOwner.__init__", s_NoOwner_init, [], false⟩
def fd34 : FnA := ⟨fun K => (He.ma K ((cA K) 23) "__init__"), "__init__", "NoRow.__init__", s_NoRow_init, [], false⟩
def fd35 : FnA := ⟨fun K => (He.ma K ((cA K) 24) "__init__"), "__init__", "NoRule.__init__", s_NoRule_init, [], false⟩
def fd36 : FnA := ⟨fun K => (He.ma K ((cA K) 25) "__init__"), "__init__", "NoDivisor.__init__", s_NoDivisor_init, [], false⟩
def fd37 : FnA := ⟨fun K => (He.ma K ((cA K) 26) "__init__"), "__init__", "Waits.__init__", s_Waits_init, [], false⟩
def fd38 : FnA := ⟨fun K => (He.ma K ((cA K) 27) "__init__"), "__init__", "Refused.__init__", s_Refused_init, [], false⟩
def fd39 : FnA := ⟨fun K => (He.ma K ((cA K) 28) "__init__"), "__init__", "Over.__init__", s_Over_init, [], false⟩
def fd40 : FnA := ⟨fun K => (He.ma K ((cA K) 29) "__init__"), "__init__", "Busy.__init__", s_Busy_init, [], false⟩
def ck0 (K : Fr) : Bool := exoT K ((cA K) 0) "ValueError.__new__" [.type "ValueError", .type "Exception", .type "BaseException", .type "object"]
def ck1 (K : Fr) : Bool := exoT K ((cA K) 1) "ValueError.__new__" [.type "ValueError", .type "Exception", .type "BaseException", .type "object"]
def ck2 (K : Fr) : Bool := exoT K ((cA K) 2) "ValueError.__new__" [.type "ValueError", .type "Exception", .type "BaseException", .type "object"]
def ck3 (K : Fr) : Bool := exoT K ((cA K) 3) "ValueError.__new__" [.type "ValueError", .type "Exception", .type "BaseException", .type "object"]
def ck4 (K : Fr) : Bool := exoT K ((cA K) 4) "ValueError.__new__" [.type "ValueError", .type "Exception", .type "BaseException", .type "object"]
def ck5 (K : Fr) : Bool := exoT K ((cA K) 5) "ValueError.__new__" [.type "ValueError", .type "Exception", .type "BaseException", .type "object"]
def ck6 (K : Fr) : Bool := exoT K ((cA K) 6) "ValueError.__new__" [.type "ValueError", .type "Exception", .type "BaseException", .type "object"]
def ck7 (K : Fr) : Bool := exoT K ((cA K) 7) "ValueError.__new__" [.type "ValueError", .type "Exception", .type "BaseException", .type "object"]
def ck8 (K : Fr) : Bool := exoT K ((cA K) 8) "ValueError.__new__" [.type "ValueError", .type "Exception", .type "BaseException", .type "object"]
def ck9 (K : Fr) : Bool := exoT K ((cA K) 9) "ValueError.__new__" [.type "ValueError", .type "Exception", .type "BaseException", .type "object"]
def ck10 (K : Fr) : Bool := exoT K ((cA K) 10) "ValueError.__new__" [.type "ValueError", .type "Exception", .type "BaseException", .type "object"]
def ck11 (K : Fr) : Bool := exoT K ((cA K) 11) "ValueError.__new__" [.type "ValueError", .type "Exception", .type "BaseException", .type "object"]
def ck12 (K : Fr) : Bool := exoT K ((cA K) 12) "ValueError.__new__" [.type "ValueError", .type "Exception", .type "BaseException", .type "object"]
def ck13 (K : Fr) : Bool := exoT K ((cA K) 13) "ValueError.__new__" [.type "ValueError", .type "Exception", .type "BaseException", .type "object"]
def ck14 (K : Fr) : Bool := exoT K ((cA K) 14) "ValueError.__new__" [.type "ValueError", .type "Exception", .type "BaseException", .type "object"]
def ck15 (K : Fr) : Bool := exoT K ((cA K) 15) "ValueError.__new__" [.type "ValueError", .type "Exception", .type "BaseException", .type "object"]
def ck16 (K : Fr) : Bool := exoT K ((cA K) 16) "ValueError.__new__" [.type "ValueError", .type "Exception", .type "BaseException", .type "object"]
def ck17 (K : Fr) : Bool := exoT K ((cA K) 17) "ValueError.__new__" [.type "ValueError", .type "Exception", .type "BaseException", .type "object"]
def ck18 (K : Fr) : Bool := exoT K ((cA K) 19) "ValueError.__new__" [.type "ValueError", .type "Exception", .type "BaseException", .type "object"]
def ck19 (K : Fr) : Bool := exoT K ((cA K) 20) "LookupError.__new__" [.type "LookupError", .type "Exception", .type "BaseException", .type "object"]
def ck20 (K : Fr) : Bool := exoT K ((cA K) 21) "LookupError.__new__" [.type "LookupError", .type "Exception", .type "BaseException", .type "object"]
def ck21 (K : Fr) : Bool := exoT K ((cA K) 22) "LookupError.__new__" [.type "LookupError", .type "Exception", .type "BaseException", .type "object"]
def ck22 (K : Fr) : Bool := exoT K ((cA K) 23) "LookupError.__new__" [.type "LookupError", .type "Exception", .type "BaseException", .type "object"]
def ck23 (K : Fr) : Bool := exoT K ((cA K) 24) "LookupError.__new__" [.type "LookupError", .type "Exception", .type "BaseException", .type "object"]
def ck24 (K : Fr) : Bool := exoT K ((cA K) 25) "ZeroDivisionError.__new__" [.type "ZeroDivisionError", .type "ArithmeticError", .type "Exception", .type "BaseException", .type "object"]
def ck25 (K : Fr) : Bool := exoT K ((cA K) 26) "RuntimeError.__new__" [.type "RuntimeError", .type "Exception", .type "BaseException", .type "object"]
def ck26 (K : Fr) : Bool := exoT K ((cA K) 27) "RuntimeError.__new__" [.type "RuntimeError", .type "Exception", .type "BaseException", .type "object"]
def ck27 (K : Fr) : Bool := exoT K ((cA K) 28) "RuntimeError.__new__" [.type "RuntimeError", .type "Exception", .type "BaseException", .type "object"]
def ck28 (K : Fr) : Bool := exoT K ((cA K) 29) "RuntimeError.__new__" [.type "RuntimeError", .type "Exception", .type "BaseException", .type "object"]
def ck29 (K : Fr) : Bool := tab30 (fun i => decide (PySem.W.nsIn K mainGlobals (enm.getD i "") = some (some (.ref ((cA K) i)))))
def ck30 (K : Fr) : Bool := tab30 (fun i => decide (PySem.W.findIn K (.ref ((cA K) i)) "__getattribute__" = some (some (.builtin "BaseException.__getattribute__"))))
def ck31 (K : Fr) : Bool := tab30 (fun i => decide (PySem.W.findIn K (.ref ((cA K) i)) "__getattr__" = some none))
def ck32 (K : Fr) : Bool := tab30 (fun i => decide (PySem.W.subIn K (.ref ((cA K) i)) (.type "BaseException") = some true))
def ck33 (K : Fr) : Bool := tab30 (fun i => decide (PySem.W.hasDictIn K ((cA K) i) = true))
def ck34 (K : Fr) : Bool := tab30 (fun i => decide (PySem.W.findIn K (.ref ((cA K) i)) "__class__" = some (some (.builtin "object.__class__"))))
def ck35 (K : Fr) : Bool := tab30 (fun i => decide (PySem.W.mroIn K ((cA K) i) (.type "object") = some true))
def ck36 (K : Fr) : Bool := tab30 (fun i => decide (PySem.W.findIn K (.ref ((cA K) i)) "__setattr__" = some (some (.builtin "object.__setattr__"))))
def ck37 (K : Fr) : Bool := tab30 (fun i => decide (PySem.W.typeIn K (.ref ((cA K) i)) = some (.type "type")))
def ck38 (K : Fr) : Bool := tab30 (fun i => decide (PySem.W.keepIn K (.ref ((cA K) i)) = true))
def ck39 (K : Fr) : Bool := tab30 (fun i => tab30 (fun j => decide (PySem.W.kitOne K (.ref ((cA K) i)) (.ref ((cA K) j)) = some (decide (i = j)))))
def ck40 (K : Fr) : Bool := tab30 (fun i => decide (PySem.W.kitOne K (.ref ((cA K) i)) (.ref (He.ga K "CountsheldError")) = some (decide (i < 20))))
def ck41 (K : Fr) : Bool := tab30 (fun i => decide (PySem.W.kitOne K (.ref ((cA K) i)) (.type "ValueError") = some (decide (i < 20))))
def ck42 (K : Fr) : Bool := tab30 (fun i => decide (PySem.W.kitOne K (.ref ((cA K) i)) (.type "LookupError") = some (decide (20 ≤ i ∧ i < 25))))
def ck43 (K : Fr) : Bool := tab30 (fun i => decide (PySem.W.kitOne K (.ref ((cA K) i)) (.type "ZeroDivisionError") = some (decide (i = 25))))
def ck44 (K : Fr) : Bool := tab30 (fun i => decide (PySem.W.kitOne K (.ref ((cA K) i)) (.type "RuntimeError") = some (decide (25 < i))))
def ck45 (K : Fr) : Bool := decide (PySem.W.nsIn K mainGlobals "_law_source" = some (some (.ref (He.ga K "_law_source"))))
def ck46 (K : Fr) : Bool := decide (PySem.W.keepIn K (.ref (He.ga K "_law_source")) = true)
def ck47 (K : Fr) : Bool := decide (PySem.W.nsIn K mainGlobals "_law_mixed" = some (some (.ref (He.ga K "_law_mixed"))))
def ck48 (K : Fr) : Bool := decide (PySem.W.keepIn K (.ref (He.ga K "_law_mixed")) = true)
def ck49 (K : Fr) : Bool := decide (PySem.W.nsIn K mainGlobals "_law_draw" = some (some (.ref (He.ga K "_law_draw"))))
def ck50 (K : Fr) : Bool := decide (PySem.W.keepIn K (.ref (He.ga K "_law_draw")) = true)
def ck51 (K : Fr) : Bool := decide (PySem.W.nsIn K mainGlobals "_law_word" = some (some (.ref (He.ga K "_law_word"))))
def ck52 (K : Fr) : Bool := decide (PySem.W.keepIn K (.ref (He.ga K "_law_word")) = true)
def ck53 (K : Fr) : Bool := decide (PySem.W.nsIn K mainGlobals "_law_number" = some (some (.ref (He.ga K "_law_number"))))
def ck54 (K : Fr) : Bool := decide (PySem.W.keepIn K (.ref (He.ga K "_law_number")) = true)
def ck55 (K : Fr) : Bool := decide (PySem.W.nsIn K mainGlobals "_law_value" = some (some (.ref (He.ga K "_law_value"))))
def ck56 (K : Fr) : Bool := decide (PySem.W.keepIn K (.ref (He.ga K "_law_value")) = true)
def ck57 (K : Fr) : Bool := decide (PySem.W.nsIn K mainGlobals "_law_first" = some (some (.ref (He.ga K "_law_first"))))
def ck58 (K : Fr) : Bool := decide (PySem.W.keepIn K (.ref (He.ga K "_law_first")) = true)
def ck59 (K : Fr) : Bool := decide (PySem.W.nsIn K mainGlobals "_law_second" = some (some (.ref (He.ga K "_law_second"))))
def ck60 (K : Fr) : Bool := decide (PySem.W.keepIn K (.ref (He.ga K "_law_second")) = true)
def ck61 (K : Fr) : Bool := decide (PySem.W.nsIn K mainGlobals "_law_bases" = some (some (.ref (He.ga K "_law_bases"))))
def ck62 (K : Fr) : Bool := decide (PySem.W.keepIn K (.ref (He.ga K "_law_bases")) = true)
def ck63 (K : Fr) : Bool := decide (PySem.W.nsIn K mainGlobals "_law_row" = some (some (.ref (He.ga K "_law_row"))))
def ck64 (K : Fr) : Bool := decide (PySem.W.keepIn K (.ref (He.ga K "_law_row")) = true)
def ck65 (K : Fr) : Bool := decide (PySem.W.nsIn K mainGlobals "_law_values" = some (some (.ref (He.ga K "_law_values"))))
def ck66 (K : Fr) : Bool := decide (PySem.W.keepIn K (.ref (He.ga K "_law_values")) = true)
def ck67 (K : Fr) : Bool := decide (PySem.W.nsIn K mainGlobals "law" = some (some (.ref (He.ga K "law"))))
def ck68 (K : Fr) : Bool := decide (PySem.W.keepIn K (.ref (He.ga K "law")) = true)
def ck69 (K : Fr) : Bool := decide (PySem.W.nsIn K mainGlobals "CountsheldError" = some (some (.ref (He.ga K "CountsheldError"))))
def ck70 (K : Fr) : Bool := decide (PySem.W.specialIn K (.builtin "object.__class__") "__get__" = some (some (.builtin "getset_descriptor.__get__")))
def ck71 (K : Fr) : Bool := decide (PySem.W.takesIn K (.builtin "object.__class__") = some true)
def ck72 (K : Fr) : Bool := decide (PySem.W.excIn K ((cA K) 18) PySem.HandSPX.veTail "ValueError.__new__" = true)
def ck73 (K : Fr) : Bool := decide (PySem.W.findIn K (.ref ((cA K) 0)) "__init__" = some (some (.ref (He.ma K ((cA K) 0) "__init__"))))
def ck74 (K : Fr) : Bool := decide (PySem.W.typeIn K (.ref (He.ma K ((cA K) 0) "__init__")) = some (.type "function"))
def ck75 (K : Fr) : Bool := decide (PySem.W.keepIn K (.ref (He.ma K ((cA K) 0) "__init__")) = true)
def ck76 (K : Fr) : Bool := decide (∀ z ∈ (["word"] : List Str), PySem.W.findIn K (.ref ((cA K) 0)) z = some none)
def ck77 (K : Fr) : Bool := decide (PySem.W.findIn K (.ref ((cA K) 1)) "__init__" = some (some (.ref (He.ma K ((cA K) 1) "__init__"))))
def ck78 (K : Fr) : Bool := decide (PySem.W.typeIn K (.ref (He.ma K ((cA K) 1) "__init__")) = some (.type "function"))
def ck79 (K : Fr) : Bool := decide (PySem.W.keepIn K (.ref (He.ma K ((cA K) 1) "__init__")) = true)
def ck80 (K : Fr) : Bool := decide (∀ z ∈ (["number"] : List Str), PySem.W.findIn K (.ref ((cA K) 1)) z = some none)
def ck81 (K : Fr) : Bool := decide (PySem.W.findIn K (.ref ((cA K) 2)) "__init__" = some (some (.ref (He.ma K ((cA K) 2) "__init__"))))
def ck82 (K : Fr) : Bool := decide (PySem.W.typeIn K (.ref (He.ma K ((cA K) 2) "__init__")) = some (.type "function"))
def ck83 (K : Fr) : Bool := decide (PySem.W.keepIn K (.ref (He.ma K ((cA K) 2) "__init__")) = true)
def ck84 (K : Fr) : Bool := decide (∀ z ∈ (["at"] : List Str), PySem.W.findIn K (.ref ((cA K) 2)) z = some none)
def ck85 (K : Fr) : Bool := decide (PySem.W.findIn K (.ref ((cA K) 3)) "__init__" = some (some (.ref (He.ma K ((cA K) 3) "__init__"))))
def ck86 (K : Fr) : Bool := decide (PySem.W.typeIn K (.ref (He.ma K ((cA K) 3) "__init__")) = some (.type "function"))
def ck87 (K : Fr) : Bool := decide (PySem.W.keepIn K (.ref (He.ma K ((cA K) 3) "__init__")) = true)
def ck88 (K : Fr) : Bool := decide (∀ z ∈ (["what"] : List Str), PySem.W.findIn K (.ref ((cA K) 3)) z = some none)
def ck89 (K : Fr) : Bool := decide (PySem.W.findIn K (.ref ((cA K) 4)) "__init__" = some (some (.ref (He.ma K ((cA K) 4) "__init__"))))
def ck90 (K : Fr) : Bool := decide (PySem.W.typeIn K (.ref (He.ma K ((cA K) 4) "__init__")) = some (.type "function"))
def ck91 (K : Fr) : Bool := decide (PySem.W.keepIn K (.ref (He.ma K ((cA K) 4) "__init__")) = true)
def ck92 (K : Fr) : Bool := decide (∀ z ∈ (["what"] : List Str), PySem.W.findIn K (.ref ((cA K) 4)) z = some none)
def ck93 (K : Fr) : Bool := decide (PySem.W.findIn K (.ref ((cA K) 5)) "__init__" = some (some (.ref (He.ma K ((cA K) 5) "__init__"))))
def ck94 (K : Fr) : Bool := decide (PySem.W.typeIn K (.ref (He.ma K ((cA K) 5) "__init__")) = some (.type "function"))
def ck95 (K : Fr) : Bool := decide (PySem.W.keepIn K (.ref (He.ma K ((cA K) 5) "__init__")) = true)
def ck96 (K : Fr) : Bool := decide (∀ z ∈ (["at"] : List Str), PySem.W.findIn K (.ref ((cA K) 5)) z = some none)
def ck97 (K : Fr) : Bool := decide (PySem.W.findIn K (.ref ((cA K) 6)) "__init__" = some (some (.ref (He.ma K ((cA K) 6) "__init__"))))
def ck98 (K : Fr) : Bool := decide (PySem.W.typeIn K (.ref (He.ma K ((cA K) 6) "__init__")) = some (.type "function"))
def ck99 (K : Fr) : Bool := decide (PySem.W.keepIn K (.ref (He.ma K ((cA K) 6) "__init__")) = true)
def ck100 (K : Fr) : Bool := decide (∀ z ∈ (["door", "line"] : List Str), PySem.W.findIn K (.ref ((cA K) 6)) z = some none)
def ck101 (K : Fr) : Bool := decide (PySem.W.findIn K (.ref ((cA K) 7)) "__init__" = some (some (.ref (He.ma K ((cA K) 7) "__init__"))))
def ck102 (K : Fr) : Bool := decide (PySem.W.typeIn K (.ref (He.ma K ((cA K) 7) "__init__")) = some (.type "function"))
def ck103 (K : Fr) : Bool := decide (PySem.W.keepIn K (.ref (He.ma K ((cA K) 7) "__init__")) = true)
def ck104 (K : Fr) : Bool := decide (∀ z ∈ (["what"] : List Str), PySem.W.findIn K (.ref ((cA K) 7)) z = some none)
def ck105 (K : Fr) : Bool := decide (PySem.W.findIn K (.ref ((cA K) 8)) "__init__" = some (some (.ref (He.ma K ((cA K) 8) "__init__"))))
def ck106 (K : Fr) : Bool := decide (PySem.W.typeIn K (.ref (He.ma K ((cA K) 8) "__init__")) = some (.type "function"))
def ck107 (K : Fr) : Bool := decide (PySem.W.keepIn K (.ref (He.ma K ((cA K) 8) "__init__")) = true)
def ck108 (K : Fr) : Bool := decide (∀ z ∈ (["at"] : List Str), PySem.W.findIn K (.ref ((cA K) 8)) z = some none)
def ck109 (K : Fr) : Bool := decide (PySem.W.findIn K (.ref ((cA K) 9)) "__init__" = some (some (.ref (He.ma K ((cA K) 9) "__init__"))))
def ck110 (K : Fr) : Bool := decide (PySem.W.typeIn K (.ref (He.ma K ((cA K) 9) "__init__")) = some (.type "function"))
def ck111 (K : Fr) : Bool := decide (PySem.W.keepIn K (.ref (He.ma K ((cA K) 9) "__init__")) = true)
def ck112 (K : Fr) : Bool := decide (∀ z ∈ (["kind"] : List Str), PySem.W.findIn K (.ref ((cA K) 9)) z = some none)
def ck113 (K : Fr) : Bool := decide (PySem.W.findIn K (.ref ((cA K) 10)) "__init__" = some (some (.ref (He.ma K ((cA K) 10) "__init__"))))
def ck114 (K : Fr) : Bool := decide (PySem.W.typeIn K (.ref (He.ma K ((cA K) 10) "__init__")) = some (.type "function"))
def ck115 (K : Fr) : Bool := decide (PySem.W.keepIn K (.ref (He.ma K ((cA K) 10) "__init__")) = true)
def ck116 (K : Fr) : Bool := decide (∀ z ∈ (["row"] : List Str), PySem.W.findIn K (.ref ((cA K) 10)) z = some none)
def ck117 (K : Fr) : Bool := decide (PySem.W.findIn K (.ref ((cA K) 11)) "__init__" = some (some (.ref (He.ma K ((cA K) 11) "__init__"))))
def ck118 (K : Fr) : Bool := decide (PySem.W.typeIn K (.ref (He.ma K ((cA K) 11) "__init__")) = some (.type "function"))
def ck119 (K : Fr) : Bool := decide (PySem.W.keepIn K (.ref (He.ma K ((cA K) 11) "__init__")) = true)
def ck120 (K : Fr) : Bool := decide (∀ z ∈ (["owner"] : List Str), PySem.W.findIn K (.ref ((cA K) 11)) z = some none)
def ck121 (K : Fr) : Bool := decide (PySem.W.findIn K (.ref ((cA K) 12)) "__init__" = some (some (.ref (He.ma K ((cA K) 12) "__init__"))))
def ck122 (K : Fr) : Bool := decide (PySem.W.typeIn K (.ref (He.ma K ((cA K) 12) "__init__")) = some (.type "function"))
def ck123 (K : Fr) : Bool := decide (PySem.W.keepIn K (.ref (He.ma K ((cA K) 12) "__init__")) = true)
def ck124 (K : Fr) : Bool := decide (∀ z ∈ (["pick"] : List Str), PySem.W.findIn K (.ref ((cA K) 12)) z = some none)
def ck125 (K : Fr) : Bool := decide (PySem.W.findIn K (.ref ((cA K) 13)) "__init__" = some (some (.ref (He.ma K ((cA K) 13) "__init__"))))
def ck126 (K : Fr) : Bool := decide (PySem.W.typeIn K (.ref (He.ma K ((cA K) 13) "__init__")) = some (.type "function"))
def ck127 (K : Fr) : Bool := decide (PySem.W.keepIn K (.ref (He.ma K ((cA K) 13) "__init__")) = true)
def ck128 (K : Fr) : Bool := decide (∀ z ∈ (["rules"] : List Str), PySem.W.findIn K (.ref ((cA K) 13)) z = some none)
def ck129 (K : Fr) : Bool := decide (PySem.W.findIn K (.ref ((cA K) 14)) "__init__" = some (some (.ref (He.ma K ((cA K) 14) "__init__"))))
def ck130 (K : Fr) : Bool := decide (PySem.W.typeIn K (.ref (He.ma K ((cA K) 14) "__init__")) = some (.type "function"))
def ck131 (K : Fr) : Bool := decide (PySem.W.keepIn K (.ref (He.ma K ((cA K) 14) "__init__")) = true)
def ck132 (K : Fr) : Bool := decide (∀ z ∈ (["at"] : List Str), PySem.W.findIn K (.ref ((cA K) 14)) z = some none)
def ck133 (K : Fr) : Bool := decide (PySem.W.findIn K (.ref ((cA K) 15)) "__init__" = some (some (.ref (He.ma K ((cA K) 15) "__init__"))))
def ck134 (K : Fr) : Bool := decide (PySem.W.typeIn K (.ref (He.ma K ((cA K) 15) "__init__")) = some (.type "function"))
def ck135 (K : Fr) : Bool := decide (PySem.W.keepIn K (.ref (He.ma K ((cA K) 15) "__init__")) = true)
def ck136 (K : Fr) : Bool := decide (∀ z ∈ (["standing"] : List Str), PySem.W.findIn K (.ref ((cA K) 15)) z = some none)
def ck137 (K : Fr) : Bool := decide (PySem.W.findIn K (.ref ((cA K) 16)) "__init__" = some (some (.ref (He.ma K ((cA K) 16) "__init__"))))
def ck138 (K : Fr) : Bool := decide (PySem.W.typeIn K (.ref (He.ma K ((cA K) 16) "__init__")) = some (.type "function"))
def ck139 (K : Fr) : Bool := decide (PySem.W.keepIn K (.ref (He.ma K ((cA K) 16) "__init__")) = true)
def ck140 (K : Fr) : Bool := decide (∀ z ∈ (["at"] : List Str), PySem.W.findIn K (.ref ((cA K) 16)) z = some none)
def ck141 (K : Fr) : Bool := decide (PySem.W.findIn K (.ref ((cA K) 17)) "__init__" = some (some (.ref (He.ma K ((cA K) 17) "__init__"))))
def ck142 (K : Fr) : Bool := decide (PySem.W.typeIn K (.ref (He.ma K ((cA K) 17) "__init__")) = some (.type "function"))
def ck143 (K : Fr) : Bool := decide (PySem.W.keepIn K (.ref (He.ma K ((cA K) 17) "__init__")) = true)
def ck144 (K : Fr) : Bool := decide (∀ z ∈ (["standing"] : List Str), PySem.W.findIn K (.ref ((cA K) 17)) z = some none)
def ck145 (K : Fr) : Bool := decide (PySem.W.findIn K (.ref ((cA K) 19)) "__init__" = some (some (.ref (He.ma K ((cA K) 19) "__init__"))))
def ck146 (K : Fr) : Bool := decide (PySem.W.typeIn K (.ref (He.ma K ((cA K) 19) "__init__")) = some (.type "function"))
def ck147 (K : Fr) : Bool := decide (PySem.W.keepIn K (.ref (He.ma K ((cA K) 19) "__init__")) = true)
def ck148 (K : Fr) : Bool := decide (∀ z ∈ (["what"] : List Str), PySem.W.findIn K (.ref ((cA K) 19)) z = some none)
def ck149 (K : Fr) : Bool := decide (PySem.W.findIn K (.ref ((cA K) 20)) "__init__" = some (some (.ref (He.ma K ((cA K) 20) "__init__"))))
def ck150 (K : Fr) : Bool := decide (PySem.W.typeIn K (.ref (He.ma K ((cA K) 20) "__init__")) = some (.type "function"))
def ck151 (K : Fr) : Bool := decide (PySem.W.keepIn K (.ref (He.ma K ((cA K) 20) "__init__")) = true)
def ck152 (K : Fr) : Bool := decide (∀ z ∈ (["name"] : List Str), PySem.W.findIn K (.ref ((cA K) 20)) z = some none)
def ck153 (K : Fr) : Bool := decide (PySem.W.findIn K (.ref ((cA K) 21)) "__init__" = some (some (.ref (He.ma K ((cA K) 21) "__init__"))))
def ck154 (K : Fr) : Bool := decide (PySem.W.typeIn K (.ref (He.ma K ((cA K) 21) "__init__")) = some (.type "function"))
def ck155 (K : Fr) : Bool := decide (PySem.W.keepIn K (.ref (He.ma K ((cA K) 21) "__init__")) = true)
def ck156 (K : Fr) : Bool := decide (∀ z ∈ (["index"] : List Str), PySem.W.findIn K (.ref ((cA K) 21)) z = some none)
def ck157 (K : Fr) : Bool := decide (PySem.W.findIn K (.ref ((cA K) 22)) "__init__" = some (some (.ref (He.ma K ((cA K) 22) "__init__"))))
def ck158 (K : Fr) : Bool := decide (PySem.W.typeIn K (.ref (He.ma K ((cA K) 22) "__init__")) = some (.type "function"))
def ck159 (K : Fr) : Bool := decide (PySem.W.keepIn K (.ref (He.ma K ((cA K) 22) "__init__")) = true)
def ck160 (K : Fr) : Bool := decide (∀ z ∈ (["owner"] : List Str), PySem.W.findIn K (.ref ((cA K) 22)) z = some none)
def ck161 (K : Fr) : Bool := decide (PySem.W.findIn K (.ref ((cA K) 23)) "__init__" = some (some (.ref (He.ma K ((cA K) 23) "__init__"))))
def ck162 (K : Fr) : Bool := decide (PySem.W.typeIn K (.ref (He.ma K ((cA K) 23) "__init__")) = some (.type "function"))
def ck163 (K : Fr) : Bool := decide (PySem.W.keepIn K (.ref (He.ma K ((cA K) 23) "__init__")) = true)
def ck164 (K : Fr) : Bool := decide (∀ z ∈ (["row"] : List Str), PySem.W.findIn K (.ref ((cA K) 23)) z = some none)
def ck165 (K : Fr) : Bool := decide (PySem.W.findIn K (.ref ((cA K) 24)) "__init__" = some (some (.ref (He.ma K ((cA K) 24) "__init__"))))
def ck166 (K : Fr) : Bool := decide (PySem.W.typeIn K (.ref (He.ma K ((cA K) 24) "__init__")) = some (.type "function"))
def ck167 (K : Fr) : Bool := decide (PySem.W.keepIn K (.ref (He.ma K ((cA K) 24) "__init__")) = true)
def ck168 (K : Fr) : Bool := decide (∀ z ∈ (["rule"] : List Str), PySem.W.findIn K (.ref ((cA K) 24)) z = some none)
def ck169 (K : Fr) : Bool := decide (PySem.W.findIn K (.ref ((cA K) 25)) "__init__" = some (some (.ref (He.ma K ((cA K) 25) "__init__"))))
def ck170 (K : Fr) : Bool := decide (PySem.W.typeIn K (.ref (He.ma K ((cA K) 25) "__init__")) = some (.type "function"))
def ck171 (K : Fr) : Bool := decide (PySem.W.keepIn K (.ref (He.ma K ((cA K) 25) "__init__")) = true)
def ck172 (K : Fr) : Bool := decide (∀ z ∈ (["word"] : List Str), PySem.W.findIn K (.ref ((cA K) 25)) z = some none)
def ck173 (K : Fr) : Bool := decide (PySem.W.findIn K (.ref ((cA K) 26)) "__init__" = some (some (.ref (He.ma K ((cA K) 26) "__init__"))))
def ck174 (K : Fr) : Bool := decide (PySem.W.typeIn K (.ref (He.ma K ((cA K) 26) "__init__")) = some (.type "function"))
def ck175 (K : Fr) : Bool := decide (PySem.W.keepIn K (.ref (He.ma K ((cA K) 26) "__init__")) = true)
def ck176 (K : Fr) : Bool := decide (∀ z ∈ (["owner"] : List Str), PySem.W.findIn K (.ref ((cA K) 26)) z = some none)
def ck177 (K : Fr) : Bool := decide (PySem.W.findIn K (.ref ((cA K) 27)) "__init__" = some (some (.ref (He.ma K ((cA K) 27) "__init__"))))
def ck178 (K : Fr) : Bool := decide (PySem.W.typeIn K (.ref (He.ma K ((cA K) 27) "__init__")) = some (.type "function"))
def ck179 (K : Fr) : Bool := decide (PySem.W.keepIn K (.ref (He.ma K ((cA K) 27) "__init__")) = true)
def ck180 (K : Fr) : Bool := decide (∀ z ∈ (["door", "line", "why"] : List Str), PySem.W.findIn K (.ref ((cA K) 27)) z = some none)
def ck181 (K : Fr) : Bool := decide (PySem.W.findIn K (.ref ((cA K) 28)) "__init__" = some (some (.ref (He.ma K ((cA K) 28) "__init__"))))
def ck182 (K : Fr) : Bool := decide (PySem.W.typeIn K (.ref (He.ma K ((cA K) 28) "__init__")) = some (.type "function"))
def ck183 (K : Fr) : Bool := decide (PySem.W.keepIn K (.ref (He.ma K ((cA K) 28) "__init__")) = true)
def ck184 (K : Fr) : Bool := decide (∀ z ∈ (["number"] : List Str), PySem.W.findIn K (.ref ((cA K) 28)) z = some none)
def ck185 (K : Fr) : Bool := decide (PySem.W.findIn K (.ref ((cA K) 29)) "__init__" = some (some (.ref (He.ma K ((cA K) 29) "__init__"))))
def ck186 (K : Fr) : Bool := decide (PySem.W.typeIn K (.ref (He.ma K ((cA K) 29) "__init__")) = some (.type "function"))
def ck187 (K : Fr) : Bool := decide (PySem.W.keepIn K (.ref (He.ma K ((cA K) 29) "__init__")) = true)
def ck188 (K : Fr) : Bool := decide (∀ z ∈ (["owner"] : List Str), PySem.W.findIn K (.ref ((cA K) 29)) z = some none)
def ck189 (K : Fr) : Bool := decide (PySem.W.nsIn K mainGlobals "len" = some none)
def ck190 (K : Fr) : Bool := decide (PySem.W.nsIn K mainGlobals "int" = some none)
def ck191 (K : Fr) : Bool := decide (PySem.W.nsIn K mainGlobals "abs" = some none)
def ck192 (K : Fr) : Bool := decide (PySem.W.nsIn K mainGlobals "list" = some none)
def ck193 (K : Fr) : Bool := decide (PySem.W.nsIn K mainGlobals "range" = some none)
def ck194 (K : Fr) : Bool := decide (PySem.W.nsIn K mainGlobals "sorted" = some none)
def ck195 (K : Fr) : Bool := decide (PySem.W.nsIn K mainGlobals "str" = some none)
def ck196 (K : Fr) : Bool := decide (PySem.W.nsIn K mainGlobals "isinstance" = some none)
def ck197 (K : Fr) : Bool := decide (PySem.W.nsIn K mainGlobals "sum" = some none)
def ck198 (K : Fr) : Bool := decide (PySem.W.nsIn K mainGlobals "tuple" = some none)
def ck199 (K : Fr) : Bool := decide (PySem.W.nsIn K mainGlobals "dict" = some none)
def ck200 (K : Fr) : Bool := decide (PySem.W.nsIn K mainGlobals "all" = some none)
def ck201 (K : Fr) : Bool := decide (PySem.W.nsIn K mainGlobals "bool" = some none)
def ck202 (K : Fr) : Bool := decide (PySem.W.nsIn K mainGlobals "enumerate" = some none)
def ck203 (K : Fr) : Bool := decide (PySem.W.nsIn K mainGlobals "ValueError" = some none)
def ck204 (K : Fr) : Bool := decide (PySem.W.nsIn K mainGlobals "LookupError" = some none)
def ck205 (K : Fr) : Bool := decide (PySem.W.nsIn K mainGlobals "ZeroDivisionError" = some none)
def ck206 (K : Fr) : Bool := decide (PySem.W.nsIn K mainGlobals "RuntimeError" = some none)
def cks_0 : List (Fr → Bool) := [ck0, ck1, ck2, ck3, ck4, ck5, ck6, ck7, ck8, ck9, ck10, ck11, ck12, ck13, ck14, ck15, ck16, ck17, ck18, ck19, ck20, ck21, ck22, ck23, ck24, ck25, ck26, ck27, ck28, ck29]
def cks_1 : List (Fr → Bool) := [ck30, ck31, ck32, ck33, ck34, ck35, ck36, ck37, ck38, ck39, ck40, ck41, ck42, ck43, ck44, ck45, ck46, ck47, ck48, ck49, ck50, ck51, ck52, ck53, ck54, ck55, ck56, ck57, ck58, ck59]
def cks_2 : List (Fr → Bool) := [ck60, ck61, ck62, ck63, ck64, ck65, ck66, ck67, ck68, ck69, ck70, ck71, ck72, ck73, ck74, ck75, ck76, ck77, ck78, ck79, ck80, ck81, ck82, ck83, ck84, ck85, ck86, ck87, ck88, ck89]
def cks_3 : List (Fr → Bool) := [ck90, ck91, ck92, ck93, ck94, ck95, ck96, ck97, ck98, ck99, ck100, ck101, ck102, ck103, ck104, ck105, ck106, ck107, ck108, ck109, ck110, ck111, ck112, ck113, ck114, ck115, ck116, ck117, ck118, ck119]
def cks_4 : List (Fr → Bool) := [ck120, ck121, ck122, ck123, ck124, ck125, ck126, ck127, ck128, ck129, ck130, ck131, ck132, ck133, ck134, ck135, ck136, ck137, ck138, ck139, ck140, ck141, ck142, ck143, ck144, ck145, ck146, ck147, ck148, ck149]
def cks_5 : List (Fr → Bool) := [ck150, ck151, ck152, ck153, ck154, ck155, ck156, ck157, ck158, ck159, ck160, ck161, ck162, ck163, ck164, ck165, ck166, ck167, ck168, ck169, ck170, ck171, ck172, ck173, ck174, ck175, ck176, ck177, ck178, ck179]
def cks_6 : List (Fr → Bool) := [ck180, ck181, ck182, ck183, ck184, ck185, ck186, ck187, ck188, ck189, ck190, ck191, ck192, ck193, ck194, ck195, ck196, ck197, ck198, ck199, ck200, ck201, ck202, ck203, ck204, ck205, ck206]
def cks : List (Fr → Bool) := cks_0 ++ (cks_1 ++ (cks_2 ++ (cks_3 ++ (cks_4 ++ (cks_5 ++ (cks_6))))))
def fns_0 : List FnA := [fd0, fd1, fd2, fd3, fd4, fd5, fd6, fd7, fd8, fd9, fd10, fd11, fd12, fd13, fd14, fd15, fd16, fd17, fd18, fd19, fd20, fd21, fd22, fd23, fd24, fd25, fd26, fd27, fd28, fd29]
def fns_1 : List FnA := [fd30, fd31, fd32, fd33, fd34, fd35, fd36, fd37, fd38, fd39, fd40]
def fns : List FnA := fns_0 ++ (fns_1)
def nms_0 : List Str := ["__name__", "CountsheldError", "BadWord", "BadNumber", "BadCounts", "BadRule", "BadRules", "BadDoor", "Unfit", "BadDesk", "BadText", "NotLoose", "Named", "Full", "NoPick", "Broken", "BadHistory", "BadStanding", "BadWay", "NoWay", "NotKept", "TooMany", "NoDoor", "NoBegin", "NoOwner", "NoRow", "NoRule", "NoDivisor", "Waits", "Refused"]
def nms_1 : List Str := ["Over", "Busy", "_law_source", "_law_mixed", "_law_draw", "_law_word", "_law_number", "_law_value", "_law_first", "_law_second", "_law_bases", "_law_row", "_law_values"]
def nms : List Str := nms_0 ++ (nms_1)
abbrev hkK : PySem.W.Hook := hookK 6 cks fns
def obT (s : PySem.W.SharedT) : AlK := obsKG 6 cks fns (HandSHeadRun.getT s)
theorem obT_eq (s : PySem.W.SharedT) : obT s = hkK.obs s.abs := obsKG_eq (HandSHeadRun.getT_eq s)
set_option maxHeartbeats 0 in
theorem runK (w : World) : HandSHeadRun.RunEq R0 (PySem.W.view R0.prog [44]) hkK obT 60000 nms w := by
  intro os
  kernel_rfl
theorem factsK {w : World} {K : Fr} {h : Heap} {mg : Str → Option Value} {fa : Addr} (X : K.In h) (G : h.Ns mainGlobals mg) (hfa : mg "law" = some (.ref fa)) (c : SaysK cks fns K) : ∃ fd : FuncData, (∀ (s : Shared) (v : Value), BindsTo s fd ⟨[v], []⟩ [("_law_script", v)]) ∧ ∀ base : Heap, K.In base → base.Ns mainGlobals mg → FnOk (PySem.Challenge.rw_countsheld_k33_errors_made).prog w K mg base CX0 5 fa fd ["_law_script"] (spLaw33 K) := by
  obtain ⟨oc_source, od_source, sl_source, kV_source, dc_source, pm_source, an_source, cd_source, ct_source, l_source, c_source⟩ := c.fn 0 (d := fd0) rfl rfl
  obtain ⟨oc_mixed, od_mixed, sl_mixed, kV_mixed, dc_mixed, pm_mixed, an_mixed, cd_mixed, ct_mixed, l_mixed, c_mixed⟩ := c.fn 1 (d := fd1) rfl rfl
  obtain ⟨oc_draw, od_draw, sl_draw, kV_draw, dc_draw, pm_draw, an_draw, cd_draw, ct_draw, l_draw, c_draw⟩ := c.fn 2 (d := fd2) rfl rfl
  obtain ⟨oc_word, od_word, sl_word, kV_word, dc_word, pm_word, an_word, cd_word, ct_word, l_word, c_word⟩ := c.fn 3 (d := fd3) rfl rfl
  obtain ⟨oc_number, od_number, sl_number, kV_number, dc_number, pm_number, an_number, cd_number, ct_number, l_number, c_number⟩ := c.fn 4 (d := fd4) rfl rfl
  obtain ⟨oc_value, od_value, sl_value, kV_value, dc_value, pm_value, an_value, cd_value, ct_value, l_value, c_value⟩ := c.fn 5 (d := fd5) rfl rfl
  obtain ⟨oc_first, od_first, sl_first, kV_first, dc_first, pm_first, an_first, cd_first, ct_first, l_first, c_first⟩ := c.fn 6 (d := fd6) rfl rfl
  obtain ⟨oc_second, od_second, sl_second, kV_second, dc_second, pm_second, an_second, cd_second, ct_second, l_second, c_second⟩ := c.fn 7 (d := fd7) rfl rfl
  obtain ⟨oc_bases, od_bases, sl_bases, kV_bases, dc_bases, pm_bases, an_bases, cd_bases, ct_bases, l_bases, c_bases⟩ := c.fn 8 (d := fd8) rfl rfl
  obtain ⟨oc_row, od_row, sl_row, kV_row, dc_row, pm_row, an_row, cd_row, ct_row, l_row, c_row⟩ := c.fn 9 (d := fd9) rfl rfl
  obtain ⟨oc_values, od_values, sl_values, kV_values, dc_values, pm_values, an_values, cd_values, ct_values, l_values, c_values⟩ := c.fn 10 (d := fd10) rfl rfl
  obtain ⟨oc_law, od_law, sl_law, kV_law, dc_law, pm_law, an_law, cd_law, ct_law, l_law, c_law⟩ := c.fn 11 (d := fd11) rfl rfl
  obtain ⟨oc_BadWord, od_BadWord, sl_BadWord, kV_BadWord, dc_BadWord, pm_BadWord, an_BadWord, cd_BadWord, ct_BadWord, l_BadWord, c_BadWord⟩ := c.fn 12 (d := fd12) rfl rfl
  obtain ⟨oc_BadNumber, od_BadNumber, sl_BadNumber, kV_BadNumber, dc_BadNumber, pm_BadNumber, an_BadNumber, cd_BadNumber, ct_BadNumber, l_BadNumber, c_BadNumber⟩ := c.fn 13 (d := fd13) rfl rfl
  obtain ⟨oc_BadCounts, od_BadCounts, sl_BadCounts, kV_BadCounts, dc_BadCounts, pm_BadCounts, an_BadCounts, cd_BadCounts, ct_BadCounts, l_BadCounts, c_BadCounts⟩ := c.fn 14 (d := fd14) rfl rfl
  obtain ⟨oc_BadRule, od_BadRule, sl_BadRule, kV_BadRule, dc_BadRule, pm_BadRule, an_BadRule, cd_BadRule, ct_BadRule, l_BadRule, c_BadRule⟩ := c.fn 15 (d := fd15) rfl rfl
  obtain ⟨oc_BadRules, od_BadRules, sl_BadRules, kV_BadRules, dc_BadRules, pm_BadRules, an_BadRules, cd_BadRules, ct_BadRules, l_BadRules, c_BadRules⟩ := c.fn 16 (d := fd16) rfl rfl
  obtain ⟨oc_BadDoor, od_BadDoor, sl_BadDoor, kV_BadDoor, dc_BadDoor, pm_BadDoor, an_BadDoor, cd_BadDoor, ct_BadDoor, l_BadDoor, c_BadDoor⟩ := c.fn 17 (d := fd17) rfl rfl
  obtain ⟨oc_Unfit, od_Unfit, sl_Unfit, kV_Unfit, dc_Unfit, pm_Unfit, an_Unfit, cd_Unfit, ct_Unfit, l_Unfit, c_Unfit⟩ := c.fn 18 (d := fd18) rfl rfl
  obtain ⟨oc_BadDesk, od_BadDesk, sl_BadDesk, kV_BadDesk, dc_BadDesk, pm_BadDesk, an_BadDesk, cd_BadDesk, ct_BadDesk, l_BadDesk, c_BadDesk⟩ := c.fn 19 (d := fd19) rfl rfl
  obtain ⟨oc_BadText, od_BadText, sl_BadText, kV_BadText, dc_BadText, pm_BadText, an_BadText, cd_BadText, ct_BadText, l_BadText, c_BadText⟩ := c.fn 20 (d := fd20) rfl rfl
  obtain ⟨oc_NotLoose, od_NotLoose, sl_NotLoose, kV_NotLoose, dc_NotLoose, pm_NotLoose, an_NotLoose, cd_NotLoose, ct_NotLoose, l_NotLoose, c_NotLoose⟩ := c.fn 21 (d := fd21) rfl rfl
  obtain ⟨oc_Named, od_Named, sl_Named, kV_Named, dc_Named, pm_Named, an_Named, cd_Named, ct_Named, l_Named, c_Named⟩ := c.fn 22 (d := fd22) rfl rfl
  obtain ⟨oc_Full, od_Full, sl_Full, kV_Full, dc_Full, pm_Full, an_Full, cd_Full, ct_Full, l_Full, c_Full⟩ := c.fn 23 (d := fd23) rfl rfl
  obtain ⟨oc_NoPick, od_NoPick, sl_NoPick, kV_NoPick, dc_NoPick, pm_NoPick, an_NoPick, cd_NoPick, ct_NoPick, l_NoPick, c_NoPick⟩ := c.fn 24 (d := fd24) rfl rfl
  obtain ⟨oc_Broken, od_Broken, sl_Broken, kV_Broken, dc_Broken, pm_Broken, an_Broken, cd_Broken, ct_Broken, l_Broken, c_Broken⟩ := c.fn 25 (d := fd25) rfl rfl
  obtain ⟨oc_BadHistory, od_BadHistory, sl_BadHistory, kV_BadHistory, dc_BadHistory, pm_BadHistory, an_BadHistory, cd_BadHistory, ct_BadHistory, l_BadHistory, c_BadHistory⟩ := c.fn 26 (d := fd26) rfl rfl
  obtain ⟨oc_BadStanding, od_BadStanding, sl_BadStanding, kV_BadStanding, dc_BadStanding, pm_BadStanding, an_BadStanding, cd_BadStanding, ct_BadStanding, l_BadStanding, c_BadStanding⟩ := c.fn 27 (d := fd27) rfl rfl
  obtain ⟨oc_BadWay, od_BadWay, sl_BadWay, kV_BadWay, dc_BadWay, pm_BadWay, an_BadWay, cd_BadWay, ct_BadWay, l_BadWay, c_BadWay⟩ := c.fn 28 (d := fd28) rfl rfl
  obtain ⟨oc_NoWay, od_NoWay, sl_NoWay, kV_NoWay, dc_NoWay, pm_NoWay, an_NoWay, cd_NoWay, ct_NoWay, l_NoWay, c_NoWay⟩ := c.fn 29 (d := fd29) rfl rfl
  obtain ⟨oc_TooMany, od_TooMany, sl_TooMany, kV_TooMany, dc_TooMany, pm_TooMany, an_TooMany, cd_TooMany, ct_TooMany, l_TooMany, c_TooMany⟩ := c.fn 30 (d := fd30) rfl rfl
  obtain ⟨oc_NoDoor, od_NoDoor, sl_NoDoor, kV_NoDoor, dc_NoDoor, pm_NoDoor, an_NoDoor, cd_NoDoor, ct_NoDoor, l_NoDoor, c_NoDoor⟩ := c.fn 31 (d := fd31) rfl rfl
  obtain ⟨oc_NoBegin, od_NoBegin, sl_NoBegin, kV_NoBegin, dc_NoBegin, pm_NoBegin, an_NoBegin, cd_NoBegin, ct_NoBegin, l_NoBegin, c_NoBegin⟩ := c.fn 32 (d := fd32) rfl rfl
  obtain ⟨oc_NoOwner, od_NoOwner, sl_NoOwner, kV_NoOwner, dc_NoOwner, pm_NoOwner, an_NoOwner, cd_NoOwner, ct_NoOwner, l_NoOwner, c_NoOwner⟩ := c.fn 33 (d := fd33) rfl rfl
  obtain ⟨oc_NoRow, od_NoRow, sl_NoRow, kV_NoRow, dc_NoRow, pm_NoRow, an_NoRow, cd_NoRow, ct_NoRow, l_NoRow, c_NoRow⟩ := c.fn 34 (d := fd34) rfl rfl
  obtain ⟨oc_NoRule, od_NoRule, sl_NoRule, kV_NoRule, dc_NoRule, pm_NoRule, an_NoRule, cd_NoRule, ct_NoRule, l_NoRule, c_NoRule⟩ := c.fn 35 (d := fd35) rfl rfl
  obtain ⟨oc_NoDivisor, od_NoDivisor, sl_NoDivisor, kV_NoDivisor, dc_NoDivisor, pm_NoDivisor, an_NoDivisor, cd_NoDivisor, ct_NoDivisor, l_NoDivisor, c_NoDivisor⟩ := c.fn 36 (d := fd36) rfl rfl
  obtain ⟨oc_Waits, od_Waits, sl_Waits, kV_Waits, dc_Waits, pm_Waits, an_Waits, cd_Waits, ct_Waits, l_Waits, c_Waits⟩ := c.fn 37 (d := fd37) rfl rfl
  obtain ⟨oc_Refused, od_Refused, sl_Refused, kV_Refused, dc_Refused, pm_Refused, an_Refused, cd_Refused, ct_Refused, l_Refused, c_Refused⟩ := c.fn 38 (d := fd38) rfl rfl
  obtain ⟨oc_Over, od_Over, sl_Over, kV_Over, dc_Over, pm_Over, an_Over, cd_Over, ct_Over, l_Over, c_Over⟩ := c.fn 39 (d := fd39) rfl rfl
  obtain ⟨oc_Busy, od_Busy, sl_Busy, kV_Busy, dc_Busy, pm_Busy, an_Busy, cd_Busy, ct_Busy, l_Busy, c_Busy⟩ := c.fn 40 (d := fd40) rfl rfl
  exact all_mk (l := PySem.Challenge.rw_countsheld_k33_errors_made) X G hfa (of_decide_eq_true (c.ck 45 (f := ck45) rfl)) l_source c_source (of_decide_eq_true (c.ck 46 (f := ck46) rfl)) (of_decide_eq_true (c.ck 47 (f := ck47) rfl)) l_mixed c_mixed (of_decide_eq_true (c.ck 48 (f := ck48) rfl)) (of_decide_eq_true (c.ck 49 (f := ck49) rfl)) l_draw c_draw (of_decide_eq_true (c.ck 50 (f := ck50) rfl)) (of_decide_eq_true (c.ck 51 (f := ck51) rfl)) l_word c_word (of_decide_eq_true (c.ck 52 (f := ck52) rfl)) (of_decide_eq_true (c.ck 53 (f := ck53) rfl)) l_number c_number (of_decide_eq_true (c.ck 54 (f := ck54) rfl)) (of_decide_eq_true (c.ck 55 (f := ck55) rfl)) l_value c_value (of_decide_eq_true (c.ck 56 (f := ck56) rfl)) (of_decide_eq_true (c.ck 57 (f := ck57) rfl)) l_first c_first (of_decide_eq_true (c.ck 58 (f := ck58) rfl)) (of_decide_eq_true (c.ck 59 (f := ck59) rfl)) l_second c_second (of_decide_eq_true (c.ck 60 (f := ck60) rfl)) (of_decide_eq_true (c.ck 61 (f := ck61) rfl)) l_bases c_bases (of_decide_eq_true (c.ck 62 (f := ck62) rfl)) (of_decide_eq_true (c.ck 63 (f := ck63) rfl)) l_row c_row (of_decide_eq_true (c.ck 64 (f := ck64) rfl)) (of_decide_eq_true (c.ck 65 (f := ck65) rfl)) l_values c_values (of_decide_eq_true (c.ck 66 (f := ck66) rfl)) (of_decide_eq_true (c.ck 67 (f := ck67) rfl)) l_law c_law (of_decide_eq_true (c.ck 68 (f := ck68) rfl)) (tab_ok (c.ck 29 (f := ck29) rfl)) (of_decide_eq_true (c.ck 69 (f := ck69) rfl)) (tab_ok (c.ck 30 (f := ck30) rfl)) (tab_ok (c.ck 31 (f := ck31) rfl)) (tab_ok (c.ck 32 (f := ck32) rfl)) (tab_ok (c.ck 33 (f := ck33) rfl)) (tab_ok (c.ck 34 (f := ck34) rfl)) (tab_ok (c.ck 35 (f := ck35) rfl)) (tab_ok (c.ck 36 (f := ck36) rfl)) (tab_ok (c.ck 37 (f := ck37) rfl)) (tab_ok (c.ck 38 (f := ck38) rfl)) (of_decide_eq_true (c.ck 70 (f := ck70) rfl)) (of_decide_eq_true (c.ck 71 (f := ck71) rfl)) (tabk_ok (c.ck 39 (f := ck39) rfl)) (tab_ok (c.ck 40 (f := ck40) rfl)) (tab_ok (c.ck 41 (f := ck41) rfl)) (tab_ok (c.ck 42 (f := ck42) rfl)) (tab_ok (c.ck 43 (f := ck43) rfl)) (tab_ok (c.ck 44 (f := ck44) rfl)) (of_decide_eq_true (c.ck 72 (f := ck72) rfl)) (exoT_ok (c.ck 0 (f := ck0) rfl)) (of_decide_eq_true (c.ck 73 (f := ck73) rfl)) (of_decide_eq_true (c.ck 74 (f := ck74) rfl)) l_BadWord c_BadWord (of_decide_eq_true (c.ck 75 (f := ck75) rfl)) (of_decide_eq_true (c.ck 76 (f := ck76) rfl)) (exoT_ok (c.ck 1 (f := ck1) rfl)) (of_decide_eq_true (c.ck 77 (f := ck77) rfl)) (of_decide_eq_true (c.ck 78 (f := ck78) rfl)) l_BadNumber c_BadNumber (of_decide_eq_true (c.ck 79 (f := ck79) rfl)) (of_decide_eq_true (c.ck 80 (f := ck80) rfl)) (exoT_ok (c.ck 2 (f := ck2) rfl)) (of_decide_eq_true (c.ck 81 (f := ck81) rfl)) (of_decide_eq_true (c.ck 82 (f := ck82) rfl)) l_BadCounts c_BadCounts (of_decide_eq_true (c.ck 83 (f := ck83) rfl)) (of_decide_eq_true (c.ck 84 (f := ck84) rfl)) (exoT_ok (c.ck 3 (f := ck3) rfl)) (of_decide_eq_true (c.ck 85 (f := ck85) rfl)) (of_decide_eq_true (c.ck 86 (f := ck86) rfl)) l_BadRule c_BadRule (of_decide_eq_true (c.ck 87 (f := ck87) rfl)) (of_decide_eq_true (c.ck 88 (f := ck88) rfl)) (exoT_ok (c.ck 4 (f := ck4) rfl)) (of_decide_eq_true (c.ck 89 (f := ck89) rfl)) (of_decide_eq_true (c.ck 90 (f := ck90) rfl)) l_BadRules c_BadRules (of_decide_eq_true (c.ck 91 (f := ck91) rfl)) (of_decide_eq_true (c.ck 92 (f := ck92) rfl)) (exoT_ok (c.ck 5 (f := ck5) rfl)) (of_decide_eq_true (c.ck 93 (f := ck93) rfl)) (of_decide_eq_true (c.ck 94 (f := ck94) rfl)) l_BadDoor c_BadDoor (of_decide_eq_true (c.ck 95 (f := ck95) rfl)) (of_decide_eq_true (c.ck 96 (f := ck96) rfl)) (exoT_ok (c.ck 6 (f := ck6) rfl)) (of_decide_eq_true (c.ck 97 (f := ck97) rfl)) (of_decide_eq_true (c.ck 98 (f := ck98) rfl)) l_Unfit c_Unfit (of_decide_eq_true (c.ck 99 (f := ck99) rfl)) (of_decide_eq_true (c.ck 100 (f := ck100) rfl)) (exoT_ok (c.ck 7 (f := ck7) rfl)) (of_decide_eq_true (c.ck 101 (f := ck101) rfl)) (of_decide_eq_true (c.ck 102 (f := ck102) rfl)) l_BadDesk c_BadDesk (of_decide_eq_true (c.ck 103 (f := ck103) rfl)) (of_decide_eq_true (c.ck 104 (f := ck104) rfl)) (exoT_ok (c.ck 8 (f := ck8) rfl)) (of_decide_eq_true (c.ck 105 (f := ck105) rfl)) (of_decide_eq_true (c.ck 106 (f := ck106) rfl)) l_BadText c_BadText (of_decide_eq_true (c.ck 107 (f := ck107) rfl)) (of_decide_eq_true (c.ck 108 (f := ck108) rfl)) (exoT_ok (c.ck 9 (f := ck9) rfl)) (of_decide_eq_true (c.ck 109 (f := ck109) rfl)) (of_decide_eq_true (c.ck 110 (f := ck110) rfl)) l_NotLoose c_NotLoose (of_decide_eq_true (c.ck 111 (f := ck111) rfl)) (of_decide_eq_true (c.ck 112 (f := ck112) rfl)) (exoT_ok (c.ck 10 (f := ck10) rfl)) (of_decide_eq_true (c.ck 113 (f := ck113) rfl)) (of_decide_eq_true (c.ck 114 (f := ck114) rfl)) l_Named c_Named (of_decide_eq_true (c.ck 115 (f := ck115) rfl)) (of_decide_eq_true (c.ck 116 (f := ck116) rfl)) (exoT_ok (c.ck 11 (f := ck11) rfl)) (of_decide_eq_true (c.ck 117 (f := ck117) rfl)) (of_decide_eq_true (c.ck 118 (f := ck118) rfl)) l_Full c_Full (of_decide_eq_true (c.ck 119 (f := ck119) rfl)) (of_decide_eq_true (c.ck 120 (f := ck120) rfl)) (exoT_ok (c.ck 12 (f := ck12) rfl)) (of_decide_eq_true (c.ck 121 (f := ck121) rfl)) (of_decide_eq_true (c.ck 122 (f := ck122) rfl)) l_NoPick c_NoPick (of_decide_eq_true (c.ck 123 (f := ck123) rfl)) (of_decide_eq_true (c.ck 124 (f := ck124) rfl)) (exoT_ok (c.ck 13 (f := ck13) rfl)) (of_decide_eq_true (c.ck 125 (f := ck125) rfl)) (of_decide_eq_true (c.ck 126 (f := ck126) rfl)) l_Broken c_Broken (of_decide_eq_true (c.ck 127 (f := ck127) rfl)) (of_decide_eq_true (c.ck 128 (f := ck128) rfl)) (exoT_ok (c.ck 14 (f := ck14) rfl)) (of_decide_eq_true (c.ck 129 (f := ck129) rfl)) (of_decide_eq_true (c.ck 130 (f := ck130) rfl)) l_BadHistory c_BadHistory (of_decide_eq_true (c.ck 131 (f := ck131) rfl)) (of_decide_eq_true (c.ck 132 (f := ck132) rfl)) (exoT_ok (c.ck 15 (f := ck15) rfl)) (of_decide_eq_true (c.ck 133 (f := ck133) rfl)) (of_decide_eq_true (c.ck 134 (f := ck134) rfl)) l_BadStanding c_BadStanding (of_decide_eq_true (c.ck 135 (f := ck135) rfl)) (of_decide_eq_true (c.ck 136 (f := ck136) rfl)) (exoT_ok (c.ck 16 (f := ck16) rfl)) (of_decide_eq_true (c.ck 137 (f := ck137) rfl)) (of_decide_eq_true (c.ck 138 (f := ck138) rfl)) l_BadWay c_BadWay (of_decide_eq_true (c.ck 139 (f := ck139) rfl)) (of_decide_eq_true (c.ck 140 (f := ck140) rfl)) (exoT_ok (c.ck 17 (f := ck17) rfl)) (of_decide_eq_true (c.ck 141 (f := ck141) rfl)) (of_decide_eq_true (c.ck 142 (f := ck142) rfl)) l_NoWay c_NoWay (of_decide_eq_true (c.ck 143 (f := ck143) rfl)) (of_decide_eq_true (c.ck 144 (f := ck144) rfl)) (exoT_ok (c.ck 18 (f := ck18) rfl)) (of_decide_eq_true (c.ck 145 (f := ck145) rfl)) (of_decide_eq_true (c.ck 146 (f := ck146) rfl)) l_TooMany c_TooMany (of_decide_eq_true (c.ck 147 (f := ck147) rfl)) (of_decide_eq_true (c.ck 148 (f := ck148) rfl)) (exoT_ok (c.ck 19 (f := ck19) rfl)) (of_decide_eq_true (c.ck 149 (f := ck149) rfl)) (of_decide_eq_true (c.ck 150 (f := ck150) rfl)) l_NoDoor c_NoDoor (of_decide_eq_true (c.ck 151 (f := ck151) rfl)) (of_decide_eq_true (c.ck 152 (f := ck152) rfl)) (exoT_ok (c.ck 20 (f := ck20) rfl)) (of_decide_eq_true (c.ck 153 (f := ck153) rfl)) (of_decide_eq_true (c.ck 154 (f := ck154) rfl)) l_NoBegin c_NoBegin (of_decide_eq_true (c.ck 155 (f := ck155) rfl)) (of_decide_eq_true (c.ck 156 (f := ck156) rfl)) (exoT_ok (c.ck 21 (f := ck21) rfl)) (of_decide_eq_true (c.ck 157 (f := ck157) rfl)) (of_decide_eq_true (c.ck 158 (f := ck158) rfl)) l_NoOwner c_NoOwner (of_decide_eq_true (c.ck 159 (f := ck159) rfl)) (of_decide_eq_true (c.ck 160 (f := ck160) rfl)) (exoT_ok (c.ck 22 (f := ck22) rfl)) (of_decide_eq_true (c.ck 161 (f := ck161) rfl)) (of_decide_eq_true (c.ck 162 (f := ck162) rfl)) l_NoRow c_NoRow (of_decide_eq_true (c.ck 163 (f := ck163) rfl)) (of_decide_eq_true (c.ck 164 (f := ck164) rfl)) (exoT_ok (c.ck 23 (f := ck23) rfl)) (of_decide_eq_true (c.ck 165 (f := ck165) rfl)) (of_decide_eq_true (c.ck 166 (f := ck166) rfl)) l_NoRule c_NoRule (of_decide_eq_true (c.ck 167 (f := ck167) rfl)) (of_decide_eq_true (c.ck 168 (f := ck168) rfl)) (exoT_ok (c.ck 24 (f := ck24) rfl)) (of_decide_eq_true (c.ck 169 (f := ck169) rfl)) (of_decide_eq_true (c.ck 170 (f := ck170) rfl)) l_NoDivisor c_NoDivisor (of_decide_eq_true (c.ck 171 (f := ck171) rfl)) (of_decide_eq_true (c.ck 172 (f := ck172) rfl)) (exoT_ok (c.ck 25 (f := ck25) rfl)) (of_decide_eq_true (c.ck 173 (f := ck173) rfl)) (of_decide_eq_true (c.ck 174 (f := ck174) rfl)) l_Waits c_Waits (of_decide_eq_true (c.ck 175 (f := ck175) rfl)) (of_decide_eq_true (c.ck 176 (f := ck176) rfl)) (exoT_ok (c.ck 26 (f := ck26) rfl)) (of_decide_eq_true (c.ck 177 (f := ck177) rfl)) (of_decide_eq_true (c.ck 178 (f := ck178) rfl)) l_Refused c_Refused (of_decide_eq_true (c.ck 179 (f := ck179) rfl)) (of_decide_eq_true (c.ck 180 (f := ck180) rfl)) (exoT_ok (c.ck 27 (f := ck27) rfl)) (of_decide_eq_true (c.ck 181 (f := ck181) rfl)) (of_decide_eq_true (c.ck 182 (f := ck182) rfl)) l_Over c_Over (of_decide_eq_true (c.ck 183 (f := ck183) rfl)) (of_decide_eq_true (c.ck 184 (f := ck184) rfl)) (exoT_ok (c.ck 28 (f := ck28) rfl)) (of_decide_eq_true (c.ck 185 (f := ck185) rfl)) (of_decide_eq_true (c.ck 186 (f := ck186) rfl)) l_Busy c_Busy (of_decide_eq_true (c.ck 187 (f := ck187) rfl)) (of_decide_eq_true (c.ck 188 (f := ck188) rfl)) (of_decide_eq_true (c.ck 189 (f := ck189) rfl)) (of_decide_eq_true (c.ck 190 (f := ck190) rfl)) (of_decide_eq_true (c.ck 191 (f := ck191) rfl)) (of_decide_eq_true (c.ck 192 (f := ck192) rfl)) (of_decide_eq_true (c.ck 193 (f := ck193) rfl)) (of_decide_eq_true (c.ck 194 (f := ck194) rfl)) (of_decide_eq_true (c.ck 195 (f := ck195) rfl)) (of_decide_eq_true (c.ck 196 (f := ck196) rfl)) (of_decide_eq_true (c.ck 197 (f := ck197) rfl)) (of_decide_eq_true (c.ck 198 (f := ck198) rfl)) (of_decide_eq_true (c.ck 199 (f := ck199) rfl)) (of_decide_eq_true (c.ck 200 (f := ck200) rfl)) (of_decide_eq_true (c.ck 201 (f := ck201) rfl)) (of_decide_eq_true (c.ck 202 (f := ck202) rfl)) (of_decide_eq_true (c.ck 203 (f := ck203) rfl)) (of_decide_eq_true (c.ck 204 (f := ck204) rfl)) (of_decide_eq_true (c.ck 205 (f := ck205) rfl)) (of_decide_eq_true (c.ck 206 (f := ck206) rfl))
end Cs
open PySem PySem.W PySem.Calls PyProof.Rows
set_option maxRecDepth 100000 in
set_option maxHeartbeats 0 in
theorem PySem.Challenge.cw_countsheld_k33_errors_made_holds : PySem.Challenge.rw_countsheld_k33_errors_made.Holds := by
  w_on; o_law
  refine HandSHeadRun.head_any (r := Cs.R0) (q := view Cs.R0.prog [44]) (H := Cs.hkK) (ob := Cs.obT) (M := 60000) (loose := Cs.nms) (d := HandSHeadRun.topDef Cs.R0.prog 44) (kwd := []) Cs.obT_eq
    (by kernel_rfl) (fun s => by kernel_rfl) Cs.runK (by kernel_rfl) (by kernel_rfl) (by kernel_rfl) (by rfl) (by first | assumption | decide +kernel) (by decide +kernel) ⟨rfl, rfl, rfl, rfl, rfl, by decide +kernel⟩ ?hw ?hc
  case hw => w_witness2
  case hc =>
    refine L2.walk_ofE (l := PySem.Challenge.rw_countsheld_k33_errors_made) (n := 63) (k := 5) (x := "_law_script") (CX := L2.CX0) rfl (by decide) (by kernel_rfl) ⟨rfl, by decide, by decide⟩ ?F (fun _ _ _ _ z => z)
    intro w mg fa h Y G hmg0
    obtain ⟨K, KX, c⟩ := Y
    have hmg : mg ("law" : PySem.Str) = some (.ref fa) := by
      have e : (HandSHeadRun.topDef Cs.R0.prog 44).name = ("law" : PySem.Str) := by kernel_rfl
      rw [← e]
      exact hmg0
    obtain ⟨fd, hb, hF⟩ := Cs.factsK (w := w) KX G hmg c
    exact ⟨K, fd, Cs.spLaw33 K, KX, hb, fun H a ns hl _ hS => ⟨a, ns, rfl, hS, hl, fun _ => rfl⟩, hF⟩
