import PyProof.Rows.All
import Wide.All
import OpenK.AllK
import Wide.FinOn
import HandS.ForMost
import HandS.Set
import HandS.SetBool
import PyProof.Rows.SortShellAny
import KE.KOpsOwn
import HandS.Star
import HandS.ClsMeth
import HandS.Property
import HandS.CallRecv
import HandS.Codes
import HandS.Wide
import HandS.IsInst
import HandS.RaiseMore
import HandS.Walk
import KE.KSuper
import KE.KStar
import HandS.Nested
import HandS.Replace
import PyProof.StrLaws
import HandS.Style
import HandS.Zip0
import HandS.Zip
import KE.GoesEnum
import HandS.FStr
import PyProof.ListStr
import KE.KParD
import HandS.Text
import HandS.ExcInit
import HandS.TryOnly
import HandS.WordsExc
import HandS.ExcOwn
import HandS.ExcIs
import HandS.ExcField
import HandS.Exc
import KE.KStateDown
import HandS.Base
import HandS.Call
import HandS.Defaults
import HandS.Words
import HandS.Head0
import HandS.Head1
import HandS.Head2
import HandS.HeadEnd
import HandS.HeadHook1
import HandS.HeadHook2
import KE.RegKSuper
import PySem.Challenge.RW_countsheld_k24_lines_refused
set_option Elab.async false
set_option linter.all false
set_option maxRecDepth 100000
set_option maxHeartbeats 4000000
namespace Cs
open PySem L2
def top (i : Nat) : Stmt := PySem.Challenge.pw_countsheld_k24_lines_refused.main.body.getD i (.Pass ⟨0, 0, 0, 0⟩)
abbrev s_BadDoor_init : Stmt := inClass (top 3) 0
theorem sc_BadDoor_init : FnScope ["self", "at"] ["self", "at"] (defScope s_BadDoor_init) :=
  ⟨rfl, rfl, rfl, by decide +kernel, rfl, by decide +kernel, by decide +kernel⟩
abbrev s_is_word : Stmt := top 8
theorem sc_is_word : FnScope ["thing", "sign"] ["thing"] (defScope s_is_word) :=
  ⟨rfl, rfl, rfl, by decide +kernel, rfl, by decide +kernel, by decide +kernel⟩
abbrev s_is_kind : Stmt := top 9
theorem sc_is_kind : FnScope ["thing"] ["thing"] (defScope s_is_kind) :=
  ⟨rfl, rfl, rfl, by decide +kernel, rfl, by decide +kernel, by decide +kernel⟩
abbrev s_is_digit : Stmt := top 10
theorem sc_is_digit : FnScope ["text"] ["text"] (defScope s_is_digit) :=
  ⟨rfl, rfl, rfl, by decide +kernel, rfl, by decide +kernel, by decide +kernel⟩
abbrev s_distinct : Stmt := top 11
theorem sc_distinct : FnScope ["words", "word"] ["words"] (defScope s_distinct) :=
  ⟨rfl, rfl, rfl, by decide +kernel, rfl, by decide +kernel, by decide +kernel⟩
abbrev s_split_at : Stmt := top 15
theorem sc_split_at : FnScope ["tokens", "word", "groups", "token"] ["tokens", "word"] (defScope s_split_at) :=
  ⟨rfl, rfl, rfl, by decide +kernel, rfl, by decide +kernel, by decide +kernel⟩
abbrev s_read_kinds : Stmt := top 16
theorem sc_read_kinds : FnScope ["tokens", "between", "kinds", "good", "token", "kind"] ["tokens", "between"] (defScope s_read_kinds) :=
  ⟨rfl, rfl, rfl, by decide +kernel, rfl, by decide +kernel, by decide +kernel⟩
abbrev s_read_test : Stmt := top 17
theorem sc_read_test : FnScope ["tokens", "kinds", "is_other", "rest"] ["tokens"] (defScope s_read_test) :=
  ⟨rfl, rfl, rfl, by decide +kernel, rfl, by decide +kernel, by decide +kernel⟩
abbrev s_read_tests : Stmt := top 18
theorem sc_read_tests : FnScope ["tokens", "tests", "group", "test"] ["tokens"] (defScope s_read_tests) :=
  ⟨rfl, rfl, rfl, by decide +kernel, rfl, by decide +kernel, by decide +kernel⟩
abbrev s_read_arrow : Stmt := top 19
theorem sc_read_arrow : FnScope ["tokens", "word", "middle", "after", "kinds"] ["tokens"] (defScope s_read_arrow) :=
  ⟨rfl, rfl, rfl, by decide +kernel, rfl, by decide +kernel, by decide +kernel⟩
abbrev s_read_part : Stmt := top 20
theorem sc_read_part : FnScope ["tokens"] ["tokens"] (defScope s_read_part) :=
  ⟨rfl, rfl, rfl, by decide +kernel, rfl, by decide +kernel, by decide +kernel⟩
abbrev s_how_many : Stmt := top 21
theorem sc_how_many : FnScope ["parts", "words", "part"] ["parts", "words"] (defScope s_how_many) :=
  ⟨rfl, rfl, rfl, by decide +kernel, rfl, by decide +kernel, by decide +kernel⟩
abbrev s_read_do : Stmt := top 22
theorem sc_read_do : FnScope ["tokens", "groups", "parts", "tests", "group", "part"] ["tokens"] (defScope s_read_do) :=
  ⟨rfl, rfl, rfl, by decide +kernel, rfl, by decide +kernel, by decide +kernel⟩
abbrev s_asks_other : Stmt := top 23
theorem sc_asks_other : FnScope ["tests", "test"] ["tests"] (defScope s_asks_other) :=
  ⟨rfl, rfl, rfl, by decide +kernel, rfl, by decide +kernel, by decide +kernel⟩
abbrev s_read_line : Stmt := top 24
theorem sc_read_line : FnScope ["line", "tokens", "tests"] ["line"] (defScope s_read_line) :=
  ⟨rfl, rfl, rfl, by decide +kernel, rfl, by decide +kernel, by decide +kernel⟩
abbrev s_tests_of : Stmt := top 25
theorem sc_tests_of : FnScope ["step"] ["step"] (defScope s_tests_of) :=
  ⟨rfl, rfl, rfl, by decide +kernel, rfl, by decide +kernel, by decide +kernel⟩
abbrev s_parts_of : Stmt := top 26
theorem sc_parts_of : FnScope ["step"] ["step"] (defScope s_parts_of) :=
  ⟨rfl, rfl, rfl, by decide +kernel, rfl, by decide +kernel, by decide +kernel⟩
abbrev s_step_touches : Stmt := top 27
theorem sc_step_touches : FnScope ["step"] ["step"] (defScope s_step_touches) :=
  ⟨rfl, rfl, rfl, by decide +kernel, rfl, by decide +kernel, by decide +kernel⟩
abbrev s_step_names_row : Stmt := top 28
theorem sc_step_names_row : FnScope ["step"] ["step"] (defScope s_step_names_row) :=
  ⟨rfl, rfl, rfl, by decide +kernel, rfl, by decide +kernel, by decide +kernel⟩
abbrev s_Door_init : Stmt := inClass (top 29) 0
theorem sc_Door_init : FnScope ["self", "name", "lines", "steps", "at", "line", "step", "crossings"] ["self", "name", "lines"] (defScope s_Door_init) :=
  ⟨rfl, rfl, rfl, by decide +kernel, rfl, by decide +kernel, by decide +kernel⟩
abbrev s_Door_of : Stmt := inClass (top 29) 1
theorem sc_Door_of : FnScope ["cls", "name", "lines"] ["cls", "name", "lines"] (defScope s_Door_of) :=
  ⟨rfl, rfl, rfl, by decide +kernel, rfl, by decide +kernel, by decide +kernel⟩
abbrev s_Door_call : Stmt := inClass (top 29) 4
theorem sc_Door_call : FnScope ["self", "book", "owner", "row", "other", "picks", "steps", "told", "call"] ["self", "book", "owner", "row", "other", "picks"] (defScope s_Door_call) :=
  ⟨rfl, rfl, rfl, by decide +kernel, rfl, by decide +kernel, by decide +kernel⟩
abbrev s_Door_len : Stmt := inClass (top 29) 5
theorem sc_Door_len : FnScope ["self"] ["self"] (defScope s_Door_len) :=
  ⟨rfl, rfl, rfl, by decide +kernel, rfl, by decide +kernel, by decide +kernel⟩
abbrev s_Door_eq : Stmt := inClass (top 29) 6
theorem sc_Door_eq : FnScope ["self", "other"] ["self", "other"] (defScope s_Door_eq) :=
  ⟨rfl, rfl, rfl, by decide +kernel, rfl, by decide +kernel, by decide +kernel⟩
abbrev s_Door_str : Stmt := inClass (top 29) 7
theorem sc_Door_str : FnScope ["self"] ["self"] (defScope s_Door_str) :=
  ⟨rfl, rfl, rfl, by decide +kernel, rfl, by decide +kernel, by decide +kernel⟩
abbrev s_l_source : Stmt := top 31
theorem sc_l_source : FnScope ["_law_script"] ["_law_script"] (defScope s_l_source) :=
  ⟨rfl, rfl, rfl, by decide +kernel, rfl, by decide +kernel, by decide +kernel⟩
abbrev s_l_mixed : Stmt := top 32
theorem sc_l_mixed : FnScope ["_law_cell", "_law_count", "_law_first"] ["_law_cell", "_law_count"] (defScope s_l_mixed) :=
  ⟨rfl, rfl, rfl, by decide +kernel, rfl, by decide +kernel, by decide +kernel⟩
abbrev s_l_draw : Stmt := top 33
theorem sc_l_draw : FnScope ["_law_source_here", "_law_size", "_law_at_here", "_law_cell", "_law_value"] ["_law_source_here", "_law_size"] (defScope s_l_draw) :=
  ⟨rfl, rfl, rfl, by decide +kernel, rfl, by decide +kernel, by decide +kernel⟩
abbrev s_l_word : Stmt := top 34
theorem sc_l_word : FnScope ["_law_source_here", "_law_words", "_law_word_here", "_law_k"] ["_law_source_here"] (defScope s_l_word) :=
  ⟨rfl, rfl, rfl, by decide +kernel, rfl, by decide +kernel, by decide +kernel⟩
abbrev s_l_kind : Stmt := top 35
theorem sc_l_kind : FnScope ["_law_source_here", "_law_taken", "_law_letters", "_law_barred", "_law_words", "_law_word_here", "_law_k"] ["_law_source_here", "_law_taken"] (defScope s_l_kind) :=
  ⟨rfl, rfl, rfl, by decide +kernel, rfl, by decide +kernel, by decide +kernel⟩
abbrev s_l_kinds : Stmt := top 36
theorem sc_l_kinds : FnScope ["_law_source_here", "_law_many", "_law_kinds_here", "_law_k"] ["_law_source_here", "_law_many"] (defScope s_l_kinds) :=
  ⟨rfl, rfl, rfl, by decide +kernel, rfl, by decide +kernel, by decide +kernel⟩
abbrev s_l_some : Stmt := top 37
theorem sc_l_some : FnScope ["_law_source_here", "_law_things", "_law_most", "_law_start"] ["_law_source_here", "_law_things", "_law_most"] (defScope s_l_some) :=
  ⟨rfl, rfl, rfl, by decide +kernel, rfl, by decide +kernel, by decide +kernel⟩
abbrev s_l_test : Stmt := top 38
theorem sc_l_test : FnScope ["_law_source_here", "_law_kinds_here", "_law_ruled", "_law_crossing", "_law_sign", "_law_text"] ["_law_source_here", "_law_kinds_here", "_law_ruled", "_law_crossing"] (defScope s_l_test) :=
  ⟨rfl, rfl, rfl, by decide +kernel, rfl, by decide +kernel, by decide +kernel⟩
abbrev s_l_part : Stmt := top 39
theorem sc_l_part : FnScope ["_law_source_here", "_law_kinds_here", "_law_ruled", "_law_word_here", "_law_at_here", "_law_after", "_law_one", "_law_more"] ["_law_source_here", "_law_kinds_here", "_law_ruled", "_law_word_here", "_law_at_here"] (defScope s_l_part) :=
  ⟨rfl, rfl, rfl, by decide +kernel, rfl, by decide +kernel, by decide +kernel⟩
abbrev s_l_do : Stmt := top 40
theorem sc_l_do : FnScope ["_law_source_here", "_law_kinds_here", "_law_ruled", "_law_crossing", "_law_parts", "_law_used", "_law_crossed", "_law_at_here", "_law_word_here", "_law_tests", "_law_text", "_law_k"] ["_law_source_here", "_law_kinds_here", "_law_ruled", "_law_crossing"] (defScope s_l_do) :=
  ⟨rfl, rfl, rfl, by decide +kernel, rfl, by decide +kernel, by decide +kernel⟩
abbrev s_l_lines : Stmt := top 41
theorem sc_l_lines : FnScope ["_law_source_here", "_law_kinds_here", "_law_ruled", "_law_many", "_law_must", "_law_crossing", "_law_held", "_law_lines_here", "_law_at_here", "_law_mode", "_law_line", "_law_tests", "_law_k"] ["_law_source_here", "_law_kinds_here", "_law_ruled"] (defScope s_l_lines) :=
  ⟨rfl, rfl, rfl, by decide +kernel, rfl, by decide +kernel, by decide +kernel⟩
abbrev s_l_has : Stmt := top 42
theorem sc_l_has : FnScope ["_law_lines_here", "_law_words", "_law_line", "_law_token"] ["_law_lines_here", "_law_words"] (defScope s_l_has) :=
  ⟨rfl, rfl, rfl, by decide +kernel, rfl, by decide +kernel, by decide +kernel⟩
abbrev s_l_at : Stmt := top 43
theorem sc_l_at : FnScope ["_law_name", "_law_lines_here", "e"] ["_law_name", "_law_lines_here"] (defScope s_l_at) :=
  ⟨rfl, rfl, rfl, by decide +kernel, rfl, by decide +kernel, by decide +kernel⟩
abbrev s_l_first_faults : Stmt := top 44
theorem sc_l_first_faults : FnScope ["_law_a", "_law_b", "_law_rows"] ["_law_a", "_law_b"] (defScope s_l_first_faults) :=
  ⟨rfl, rfl, rfl, by decide +kernel, rfl, by decide +kernel, by decide +kernel⟩
abbrev s_l_second_faults : Stmt := top 45
theorem sc_l_second_faults : FnScope ["_law_a", "_law_b", "_law_one", "_law_rows"] ["_law_a", "_law_b"] (defScope s_l_second_faults) :=
  ⟨rfl, rfl, rfl, by decide +kernel, rfl, by decide +kernel, by decide +kernel⟩
abbrev s_l_each : Stmt := top 46
theorem sc_l_each : FnScope ["_law_name", "_law_lines_here", "e"] ["_law_name", "_law_lines_here"] (defScope s_l_each) :=
  ⟨rfl, rfl, rfl, by decide +kernel, rfl, by decide +kernel, by decide +kernel⟩
abbrev s_law : Stmt := top 47
theorem sc_law : FnScope ["_law_script", "_law_source_here", "_law_name", "_law_kinds_here", "_law_lines_here", "_law_rows", "_law_wrong", "_law_at_here", "_law_faulty", "_law_word_here", "_law_line", "_law_replaced"] ["_law_script"] (defScope s_law) :=
  ⟨rfl, rfl, rfl, by decide +kernel, rfl, by decide +kernel, by decide +kernel⟩
end Cs

set_option Elab.async false
set_option linter.all false
set_option maxRecDepth 100000
set_option maxHeartbeats 4000000
/-! Sets of texts as a set comprehension makes them: a list of members without repeats, up to order; and sorted(..) of such a set. -/
namespace Cs
open PySem PySem.Spec PyProof.Rows L2

def tkey (e : Int × Value) : Str := match e.2 with | .str z _ => z | _ => Str.empty
def TGood (w : World) (e : Int × Value) : Prop := ∃ z tk, e.2 = Value.str z tk ∧ e.1 = hashStr w z
/-- a set object whose members are the texts zs (in some order) -/
def TSet (w : World) (h : Heap) (a : Addr) (zs : List Str) : Prop :=
  ∃ o es ep t, h.get? a = some o ∧ o.ExactSet ∧ o.data = .set es ep t ∧ (∀ e ∈ es.toList, TGood w e)
    ∧ (es.toList.map tkey).Perm zs ∧ zs.Nodup ∧ es.size < scanBound ∧ t.fits es.size = true
    ∧ Ris t.place.toList ∧ (w.params.followText "set-order" = true ∨ t.led = true)

section
variable {P : Program} {w : World} {h h' : Heap} {a : Addr} {zs : List Str}
theorem TSet.there (R : TSet w h a zs) (k : ∀ o, h.get? a = some o → h'.get? a = some o) : TSet w h' a zs := by
  obtain ⟨o, es, ep, t, q, r⟩ := R
  exact ⟨o, es, ep, t, k o q, r⟩
theorem TGood.elems {l : List (Int × Value)} (g : ∀ e ∈ l, TGood w e) : ElemsOf (PySem.strKind P w) l := fun e m => by
  obtain ⟨z, tk, e1, e2⟩ := g e m
  refine ⟨⟨z, ?_, e2⟩, ?_⟩
  · rw [e1]
    show Value.isStrOf z (.str z tk) = true
    simp [Value.isStrOf]
  · rw [e1]
    rfl
theorem TGood.is_iff {e : Int × Value} (g : TGood w e) (z : Str) : (PySem.strKind P w).is z e.2 = true ↔ tkey e = z := by
  obtain ⟨y, tk, e1, _⟩ := g
  unfold tkey
  rw [e1]
  show Value.isStrOf z (.str y tk) = true ↔ y = z
  simp [Value.isStrOf]
theorem TGood.mem_iff {l : List (Int × Value)} (g : ∀ e ∈ l, TGood w e) (z : Str) : z ∈ l.map tkey ↔ ∃ e ∈ l, (PySem.strKind P w).is z e.2 = true := by
  constructor
  · intro m
    obtain ⟨e, he, q⟩ := List.mem_map.mp m
    exact ⟨e, he, (TGood.is_iff (g e he) z).mpr q⟩
  · rintro ⟨e, he, q⟩
    exact List.mem_map.mpr ⟨e, he, (TGood.is_iff (g e he) z).mp q⟩
end

section
variable {P : Program} {w : World} {A : Around} {E : Value → Shared → Prop} {s : Shared} {a : Addr} {zs : List Str}
/-- the end of an addition: the table is stored, laid anew where it is too full -/
theorem tset_tail {g : Bool → Sem Unit} (hg : ∀ (b : Bool) (s1 : Shared) (Q1 : Unit → Shared → Prop), Q1 () s1 → wpAny (model P w) A (g b) Q1 E s1)
    {o : Obj} {es es1 : Array (Int × Value)} {ep : Nat} {t t1 : SetTable} (ho : s.heap.get? a = some o) (hex : o.ExactSet) (hd : o.data = .set es ep t)
    (gd : ∀ e ∈ es1.toList, TGood w e) (pz : (es1.toList.map tkey).Perm zs) (nz : zs.Nodup) (hb : es1.size < scanBound) (hf : t1.fits es1.size = true)
    (hr : Ris t1.place.toList) (hl : w.params.followText "set-order" = true ∨ t1.led = true) {dm : Bool} {R : Option Bool → Shared → Prop}
    (hR : ∀ h', Heap.SameBut a s.heap h' → TSet w h' a zs → R (some true) { s with heap := h' }) :
    wpAny (model P w) A (do
        storeSet a es1 t1
        if (!dm && t1.tooFull) = true then do
            g (relayAll t1 es1 (SetTable.grown es1.size)).2.2
            storeSet a (relayAll t1 es1 (SetTable.grown es1.size)).1 (relayAll t1 es1 (SetTable.grown es1.size)).2.1
            pure (some true)
          else pure (some true)) R E s := by
  refine wpAny_bind (wpAny_storeSet_of ho hd ?_ (fits_of_scanBound hb))
  have ho1 := store_at (es' := es1) (t' := t1) ho hd
  have same := Heap.SameBut.update s.heap a (Obj.putSet es1 t1)
  split
  · have p2 := relayAll_perm t1 es1 (SetTable.grown es1.size)
    have f2 := relayAll_fits t1 es1 (SetTable.grown es1.size)
    have r2 := relayAll_ris t1 es1 (SetTable.grown es1.size)
    have l2 := relayAll_led t1 es1 (SetTable.grown es1.size)
    generalize relayAll t1 es1 (SetTable.grown es1.size) = Z at p2 f2 r2 l2 ⊢
    obtain ⟨es2, t2, gv⟩ := Z
    dsimp only at p2 f2 r2 l2 ⊢
    have sz : es2.size = es1.size := by rw [← Array.length_toList, p2.length_eq, Array.length_toList]
    have hb2 : es2.size < scanBound := sz ▸ hb
    refine wpAny_bind (hg _ _ _ (wpAny_bind (wpAny_storeSet_of ho1 rfl ?_ (fits_of_scanBound hb2))))
    have ho2 := store_at (es' := es2) (t' := t2) ho1 rfl
    exact wpAny_pure (hR _ (same.trans (Heap.SameBut.update _ a _)) ⟨_, es2, _, t2, ho2, hex, rfl, fun e m => gd e (p2.mem_iff.mp m), (p2.map tkey).trans pz, nz, hb2, f2, r2, hl.imp id fun q => by rw [l2]; exact q⟩)
  · exact wpAny_pure (hR _ same ⟨_, es1, _, t1, ho1, hex, rfl, gd, pz, nz, hb, hf, hr, hl⟩)

/-- one text more -/
def addT (zs : List Str) (z : Str) : List Str := if z ∈ zs then zs else zs ++ [z]

theorem tset_hashed {z : Str} {tk : Tok} {Q : Bool → Shared → Prop} (R : TSet w s.heap a zs) (room : zs.length + 1 < scanBound)
    (hQ : ∀ b h', Heap.SameBut a s.heap h' → TSet w h' a (addT zs z) → Q b { s with heap := h' }) :
    wpAny (model P w) A (setAddHashed a (.str z tk) ((PySem.strKind P w).hash z)) Q E s := by
  obtain ⟨o, es, ep, t, ho, hex, hd, gd, pz, nz, hb, hf, hr, hl⟩ := R
  have hkey : (PySem.strKind P w).is z (.str z tk) = true := by
    show Value.isStrOf z (.str z tk) = true
    simp [Value.isStrOf]
  have hsc : (Value.str z tk).scannable = true := rfl
  have hel : ElemsOf (PySem.strKind P w) es.toList := TGood.elems gd
  have hn : es.size = zs.length := by rw [← Array.length_toList, ← pz.length_eq, List.length_map]
  unfold setAddHashed setAddHashedIn
  refine wpAny_holding (wpAny_bind (wpAny_setState_of ho hd hf ?_))
  dsimp only
  rw [byScan_of hsc hb hel]
  simp only [↓reduceIte]
  unfold setAddByScan
  refine wpAny_bind (wpAny_bind (wpAny_rule (wpAny_bind (wpAny_setScan_of hkey ho hd hf hel ?_))))
  cases hfi : List.findIdx? (fun e => (PySem.strKind P w).is z e.2) es.toList with
  | some j =>
    dsimp only
    obtain ⟨hj, pj, _⟩ := List.findIdx?_eq_some_iff_getElem.mp hfi
    have hin : z ∈ zs := pz.mem_iff.mp ((TGood.mem_iff (P := P) gd z).mpr ⟨_, List.getElem_mem hj, pj⟩)
    have q := hQ false s.heap (Heap.SameBut.refl a s.heap)
    rw [show addT zs z = zs from if_pos hin] at q
    exact wpAny_pure (wpAny_pure (q ⟨o, es, ep, t, ho, hex, hd, gd, pz, nz, hb, hf, hr, hl⟩))
  | none =>
    dsimp only
    have hout : z ∉ zs := fun m => by
      obtain ⟨e, he, q⟩ := (TGood.mem_iff (P := P) (w := w) gd z).mp (pz.mem_iff.mpr m)
      have c := List.findIdx?_eq_none_iff.mp hfi e he
      rw [q] at c
      cases c
    have hgw : ∀ (b : Bool) {s1 : Shared} {Q1 : Unit → Shared → Prop}, Q1 () s1 → wpAny (model P w) A (match b with | true => rule "set.scan.the-table-gave-way" | false => pure ()) Q1 E s1 :=
      fun b s1 Q1 q => by cases b <;> first | exact wpAny_pure q | exact wpAny_rule q
    have p1 := layNew_perm t es ((PySem.strKind P w).hash z) (.str z tk)
    have f1 := layNew_fits t es ((PySem.strKind P w).hash z) (.str z tk)
    have r1 := layNew_ris t es ((PySem.strKind P w).hash z) (.str z tk) hr
    have l1 := layNew_led t es ((PySem.strKind P w).hash z) (.str z tk)
    generalize layNew t es ((PySem.strKind P w).hash z) (.str z tk) = Z at p1 f1 r1 l1 ⊢
    obtain ⟨es1, t1, dm, gv⟩ := Z
    dsimp only at p1 f1 r1 l1 ⊢
    rw [Array.toList_push] at p1
    have gd1 : ∀ e ∈ es1.toList, TGood w e := fun e m => by
      rcases List.mem_append.mp (p1.mem_iff.mp m) with q | q
      · exact gd e q
      · rw [List.mem_singleton.mp q]
        exact ⟨z, tk, rfl, rfl⟩
    have ez : addT zs z = zs ++ [z] := if_neg hout
    have pz1 : (es1.toList.map tkey).Perm (addT zs z) := by
      rw [ez]
      refine (p1.map tkey).trans ?_
      rw [List.map_append]
      exact pz.append_right _
    have nz1 : (addT zs z).Nodup := by
      rw [ez]
      exact nd_snoc nz hout
    have sz1 : es1.size = zs.length + 1 := by
      rw [← Array.length_toList, p1.length_eq, List.length_append, Array.length_toList, hn]
      rfl
    have hb1 : es1.size < scanBound := by rw [sz1]; exact room
    have hl1 : w.params.followText "set-order" = true ∨ t1.led = true := hl.imp id fun q => by rw [l1]; exact q
    have fin : ∀ h', Heap.SameBut a s.heap h' → TSet w h' a (addT zs z) → Q true { s with heap := h' } := hQ true
    refine wpAny_bind (hgw _ ?_)
    split
    · refine wpAny_bind ?_
      rw [hashByValue_scannable 8 hsc]
      refine wpAny_pure ?_
      refine tset_tail ?_ ho hex hd gd1 pz1 nz1 hb1 ?_ ?_ ?_ ?_
      · intro b s1 Q1 q
        cases b <;> first | exact wpAny_pure q | exact wpAny_rule q
      · first | (split <;> first | exact f1 | exact SetTable.fits_plain_off f1) | exact f1
      · first | (split <;> exact r1) | exact r1
      · first | (split <;> exact hl1) | exact hl1
      · intro h' sb r
        dsimp only
        exact wpAny_pure (fin h' sb r)
    · refine wpAny_bind (wpAny_pure ?_)
      simp only [↓reduceIte]
      refine tset_tail ?_ ho hex hd gd1 pz1 nz1 hb1 f1 r1 hl1 ?_
      · intro b s1 Q1 q
        cases b <;> first | exact wpAny_pure q | exact wpAny_rule q
      · intro h' sb r
        dsimp only
        exact wpAny_pure (fin h' sb r)

theorem TSet.typeIs {zs : List Str} (R : TSet w s.heap a zs) : s.TypeIs (.ref a) "set" := by
  obtain ⟨o, es, ep, t, ho, hex, _⟩ := R
  exact ⟨o, ho, hex.1⟩
/-- s.add(z) -/
theorem tset_add {z : Str} {tk : Tok} {Q : Value → Shared → Prop} (R : TSet w s.heap a zs) (room : zs.length + 1 < scanBound)
    (hQ : ∀ h', Heap.SameBut a s.heap h' → TSet w h' a (addT zs z) → Q .none { s with heap := h', toks := s.toks + 1 }) :
    wpAny (model P w) A (call (.builtin "set.add") [.ref a, .str z tk]) Q E s := by
  have hkey : (PySem.strKind P w).is z (.str z tk) = true := by
    show Value.isStrOf z (.str z tk) = true
    simp [Value.isStrOf]
  refine wpAny_call_entry F.slot_set_add R.typeIs F.entry_set_add ?_ (F.args_set_add_2 _ _)
  unfold Builtin.«set.add» Builtin.Frozenset.oneOther
  simp only [List.isEmpty_nil, bind_assoc]
  unfold Builtin.Frozenset.addrOf setAdd
  refine wpAny_bind (wpAny_pure ?_)
  try dsimp only
  refine wpAny_bind (wpAny_pure ?_)
  try dsimp only
  refine wpAny_bind (wpAny_holding (wpAny_bind ((PySem.strKind P w).pyHash hkey ?_)))
  refine tset_hashed (s := { s with toks := s.toks + 1 }) R room fun b h' sb r => ?_
  show wpAny _ _ (ret Value.none) _ _ _
  exact wpAny_pure ⟨_, rfl, hQ h' sb r⟩
theorem tset_fresh {h : Heap} (w : World) : TSet w (h.push { cls := .type "set", dict := none, data := .set #[] 0 (.fresh 0 0 (!w.params.followText "set-order")) }) h.objs.size [] := by
  refine ⟨_, #[], 0, _, Heap.get?_push_size _ rfl, ⟨rfl, rfl, rfl⟩, rfl, (fun e m => by simp at m), .nil, .nil, by decide, rfl, .nil, ?_⟩
  show _ ∨ (!w.params.followText "set-order") = true
  cases w.params.followText "set-order"
  · exact Or.inr rfl
  · exact Or.inl rfl

/-! ### sorted -/
theorem strs_of : ∀ (l : List Value), (∀ v ∈ l, ∃ z tk, v = Value.str z tk) → StrsAre l (l.map fun v => tkey (0, v))
  | [], _ => .nil
  | v :: l, h => by
    obtain ⟨z, tk, rfl⟩ := h v List.mem_cons_self
    exact .cons z tk (strs_of l fun u m => h u (List.mem_cons_of_mem _ m))
theorem tset_sorted {Q : Value → Shared → Prop} (R : TSet w s.heap a zs) (hh : A.handled = none)
    (hQ : ∀ s' p (out : Array Value) (c : Nat) (ys : List Str), (∀ b o, s.heap.get? b = some o → s'.heap.get? b = some o) → s'.gens = s.gens → s'.os = s.os → s.heap.objs.size ≤ p →
      s'.heap.get? p = some (seqObj "list" out c) → StrsAre out.toList ys → ys.Perm zs → sortedS ys = true → Q (.ref p) s') :
    wpAny (model P w) A (call (.builtin "sorted") [.ref a]) Q E s := by
  obtain ⟨o, es, ep, t, ho, hex, hd, gd, pz, nz, hb, hf, hr, hl⟩ := R
  refine Calls.call_function_entry kind_sorted plain_sorted entry_sorted (args_sorted1 _) ?_
  unfold Builtin.«sorted»
  refine wpAny_bind (m := checkCount "sorted" 1 1 _) (wpAny_pure ?_)
  refine wpAny_bind (collect_set (A := A.in1) hh ⟨o, ho, hex.1, hd⟩ hf hb hr hl fun s1 vs k1 hz g1 o1 pm => ?_)
  have hvl : vs.length = es.size := by rw [pm.length_eq, List.length_map, Array.length_toList]
  have hS : StrsAre vs (vs.map fun v => tkey (0, v)) := strs_of vs fun v hv => by
    obtain ⟨e, he, q⟩ := List.mem_map.mp (pm.mem_iff.mp hv)
    obtain ⟨z, tk, e1, _⟩ := gd e he
    exact ⟨z, tk, by rw [← q]; exact e1⟩
  have pk : (vs.map fun v => tkey (0, v)).Perm zs := by
    have q := pm.map fun v => tkey (0, v)
    rw [List.map_map] at q
    exact q.trans pz
  have hln : vs.length ≤ sizeLine := by
    rw [hvl]
    exact fits_of_scanBound hb
  refine wpAny_bind (wpAny_newList ?_ hln)
  have hoL : (s1.heap.push (seqObj "list" vs.toArray 0)).get? s1.heap.objs.size = some (seqObj "list" vs.toArray 0) := Heap.get?_push_size _ rfl
  refine wpAny_bind (wpAny_holding (wpAny_call_entry slot_list_sort ⟨_, hoL, rfl⟩ entry_list_sort (list_sort_treeKAny strKind_oneLt hoL hS.keysOf (fun v1 v2 rest e => keyKind_strs (by rw [← e]; exact hS)) hln fun st' hp hs => ⟨_, rfl, ?_⟩) (args_list_sort _)))
  obtain ⟨ys, a1, a2, a3⟩ := sorted_out_str hS hp hs
  generalize (arrOf st').map (·.2) = out at a1 ⊢
  obtain ⟨c, hc⟩ := sortedHeap_at (vs := vs) (out := out) hoL
  refine wpAny_pure ⟨_, rfl, hQ _ s1.heap.objs.size out c ys (fun b u e => ?_) g1 o1 hz hc a1 (a2.trans pk) a3⟩
  have q := k1 b u e
  have hlt := Heap.lt_size q
  show (sortedHeap (s1.heap.push (seqObj "list" vs.toArray 0)) s1.heap.objs.size vs out).get? b = some u
  rw [sortedHeap_old (Nat.ne_of_lt hlt) (by rw [size_push']; exact Nat.lt_succ_of_lt hlt)]
  exact Heap.get?_push_of_some _ q
end

/-! ### over the abstract heap -/
def TSetO (w : World) (a : Addr) (zs : List Str) : HO := .ext fun h => TSet w h a zs
theorem tsetO_new {w : World} {P : Program} {H : Hp} {h : Heap} {a : Addr} {zs : List Str} (R : TSet w h a zs) : ObjOk P w H h a (TSetO w a zs) := by
  have ⟨o, _, _, _, ho, _⟩ := R
  exact ⟨R, ⟨o, ho⟩, fun h1 h2 p k => TSet.there p k⟩
section
variable {X : Cx} {pins : List (Addr × Obj)} {σ : L2.St} {H : Hp} {s : Shared} {zs : List Str}
theorem tsetO_get {a : Addr} (I : Inv X pins σ H s) (ha : H a = some (TSetO X.w a zs)) : TSet X.w s.heap a zs := (I.hok a _ ha).1
theorem tsetO_add {E : Value → Shared → Prop} {D : Addr} {z : Str} {tk : Tok} {Q : Value → Shared → Prop} (I : Inv X pins σ H s) (hD : H D = some (TSetO X.w D zs)) (room : zs.length + 1 < scanBound)
    (h : ∀ s', Inv X pins σ (upd H D (TSetO X.w D (addT zs z))) s' → Q .none s') : wpAny (model X.prog X.w) X.A (call (.builtin "set.add") [.ref D, .str z tk]) Q E s := by
  refine tset_add (tsetO_get I hD) room fun h' sb new => h _ ?_
  have he : ∃ u, h'.get? D = some u := by
    have ⟨o, _, _, _, ho, _⟩ := new
    exact ⟨o, ho⟩
  exact I.write (e := D) (t' := s.toks + 1) (by rw [hD]; trivial) (.inl rfl) (fun b u hb hu => (sb.2 b hb).trans hu) he (tsetO_new new)
/-- sorted(s), s a set of texts -/
def rSortT (w : World) : List V → Hp → VK → Prop := fun vs H Q => ∃ (a : Addr) (zs : List Str), vs = [V.ref a] ∧ H a = some (TSetO w a zs) ∧ zs.length ≤ 100000 ∧
  ∀ (ys : List Str) (p : Addr), ys.Perm zs → sortedS ys = true → H p = none → Q (.ref p) (upd H p (.lst (ys.map V.str)))
theorem cr_sortT (hc : X.calm = true) : CallR X (.builtin "sorted") (rSortT X.w) := by
  intro pins s σ H vs us Q I r h
  obtain ⟨a, zs, rfl, ha, hz, q⟩ := h
  rw [Vals.ref1 r]
  refine tset_sorted (tsetO_get I ha) (I.ok.hd hc) fun s' p out c ys k g o hp hg hS hperm hsrt => ?_
  have hlen : (ys.map V.str).length ≤ sizeLine := by
    rw [List.length_map, hperm.length_eq]
    exact Nat.le_trans hz (by decide)
  have hn : H p = none := I.hok.fresh hp
  have J : Inv X pins σ (upd H p (.lst (ys.map V.str))) { s with heap := s'.heap, gens := s'.gens, drawn := s'.drawn, toks := s'.toks } :=
    I.call (ch := []) (Un.laid k hp hn) (I.hok.laid k hp ⟨hlen, out.toList, c, vals_of_strs hS, hg⟩) (by rw [g]; exact I.bare) (fun _ m => nomatch m)
  have e : s' = { s with heap := s'.heap, gens := s'.gens, drawn := s'.drawn, toks := s'.toks } := by
    cases s'
    cases s
    cases o
    rfl
  rw [e]
  exact ⟨.ref p, _, J, rfl, q ys p hperm hsrt hn⟩
end
end Cs

set_option Elab.async false
set_option linter.all false
set_option maxRecDepth 100000
set_option maxHeartbeats 4000000
/-! {elt for target in iter if ..} where elt is a text. -/
namespace Cs
open PySem PySem.Spec PyProof.Rows L2

/-- one turn of such a comprehension: the text that comes is put into the set at D -/
def tScT (w : World) (wi : TI) (g : TG) (tt : TT) (te : TE) (vs : List Nat) : TE := fun σ H Q => wi σ H fun J H1 => ∀ D, H1 D = none →
  ∃ W : Nat → Nat → Hp → Prop, (∃ m, W 0 m (upd H1 D (TSetO w D []))) ∧ ∀ i m H, W i m H →
  (J.stop i H ∧ Q (.ref D) H) ∨ (J.go i H ∧ ∃ Nx : Hp → Prop, (∀ H', Nx H' → ∃ m', m' < m ∧ W (i + 1) m' H') ∧
    ∀ x H', J.yld i H x H' → g x (wipe σ vs) H' fun σ2 H2 => wipe σ2 vs = wipe σ vs ∧ tt σ2 H2 fun b H3 =>
    if b = true then te σ2 H3 fun y H4 => ∃ (z : Str) (zs : List Str), y = .str z ∧ H4 D = some (TSetO w D zs) ∧ zs.length + 1 < scanBound ∧ Nx (upd H4 D (TSetO w D (addT zs z))) else Nx H3)
section
variable {X : Cx}
theorem scT_core {pins : List (Addr × Obj)} {s : Shared} {σ : L2.St} {H : Hp} {Q : VK} {elt tg iter : Expr} {ifs : List Expr} {scope : Scope} {own : List (PySem.Str × Nat)} {pos pos' : Pos}
    {wi : TI} {g : TG} {tt : TT} {te : TE} {use : Option (Value → Sem Unit)} {Qf : Value → Shared → Prop}
    (hc : X.calm = true) (hN : X.N.Nodup) (I : Inv X pins σ H s) (hi : PI X tg iter wi) (ok : BlkOk X.N X.env.scope scope own)
    (hg : ∀ (s : Shared) (H : Hp) (C : Addr) (cl : List (PySem.Str × Addr)) (fp : List Addr), PG (X.blk s H scope (compEnvC scope cl C X.env) fp) tg g)
    (ht : ∀ (s : Shared) (H : Hp) (C : Addr) (cl : List (PySem.Str × Addr)) (fp : List Addr), PTs (X.blk s H scope (compEnvC scope cl C X.env) fp) ifs tt)
    (he : ∀ (s : Shared) (H : Hp) (C : Addr) (cl : List (PySem.Str × Addr)) (fp : List Addr), PE (X.blk s H scope (compEnvC scope cl C X.env) fp) elt te)
    (hs : ∀ x, foldedSetIterable iter X.env x = pure x) (h : tScT X.w wi g tt te (own.map (·.2)) σ H Q)
    (hRR : ∀ D C s' m H', Inv X pins σ H' s' → Q (.ref D) H' → s'.heap.Ns C m → FpOk X pins H' C → compPost (model X.prog X.w) X.A X.xe use Qf (.ref D) C (.ok .next) s') :
    wpAny (model X.prog X.w) X.A (comprehension (.SetComp elt [⟨tg, iter, ifs, 0⟩] scope pos) scope X.env pos' (newSet (.type "set")) false (eval iter X.env) use) Qf X.xe s := by
  have cells : ∀ y ∈ scope.names, y.2 = .free → ∃ c, X.env.cells.lookup y.1 = some c := fun y hy e => (ok.free y hy e).elim (fun k => I.ok.has _ (.inl k)) fun k => I.ok.has _ (.inr k)
  refine wpAny_comprehension_free (use := use) rfl hs (closure_ok cells) ok.kind (fun y hy e => by rw [ok.uniq y hy, e]) (thn (hi.run pins s σ H _ I h) fun xv sA hx => thn hx fun itv sB hB => ?_)
  obtain ⟨it, fp, tn, J, HB, e, IB, T, stB, fB, q⟩ := hB
  subst e
  refine PpSet.newSet_ok (newEnv_comp ?_)
  generalize hD : sB.heap.objs.size = D
  obtain ⟨W, ⟨m0, w0⟩, turn⟩ := q D (IB.hok.fresh (Nat.le_of_eq hD))
  generalize hsC : ({ sB with heap := sB.heap.push { cls := .type "set", dict := none, data := .set #[] 0 (.fresh 0 0 (!X.w.params.followText "set-order")) } } : Shared) = sC
  have hpC : sC.heap = sB.heap.push { cls := .type "set", dict := none, data := .set #[] 0 (.fresh 0 0 (!X.w.params.followText "set-order")) } := by rw [← hsC]
  generalize hHC : upd HB D (TSetO X.w D []) = HC at w0
  have IC : Inv X pins σ HC sC := by
    rw [← hsC, ← hHC]
    refine IB.laid (t' := sB.toks) (fun b o e => Heap.get?_push_of_some _ e) (Nat.le_of_eq hD) ?_
    rw [← hD]
    exact tsetO_new (tset_fresh X.w)
  have below : ∀ b ∈ fp, b < sB.heap.objs.size := fun b hb => (T.obj _ _ stB b hb).elim fun o z => Heap.lt_size z.1
  have fC : ∀ b ∈ fp, FpOk X pins HC b ∧ b < sC.heap.objs.size := fun b hb => by
    have lt := below b hb
    refine ⟨⟨?_, (fB b hb).2⟩, by rw [hpC, Heap.size_push]; exact Nat.lt_succ_of_lt lt⟩
    rw [← hHC, upd_ne (by rw [← hD]; exact Nat.ne_of_lt lt)]
    exact (fB b hb).1
  have stC : tn 0 sC.heap := T.keep _ _ _ stB fun b _ o e => by rw [hpC]; exact Heap.get?_push_of_some _ e
  have IK := block_start IC ok hN fC
  show codeAny _ _ (.compStart (.SetComp elt [⟨tg, iter, ifs, 0⟩] scope pos) 0 (.ref it) (.ref D) (compEnvC scope (cellsFrom (sC.heap.objs.size + 1) scope.names (cloFrom X.env.cells scope.names [])) sC.heap.objs.size X.env))
    (compPost (model X.prog X.w) X.A X.xe use Qf (.ref D) sC.heap.objs.size) { sC with heap := pushCells (sC.heap.push { cls := .type "dict", data := .dict #[] }) scope.names }
  generalize cellsFrom (sC.heap.objs.size + 1) scope.names (cloFrom X.env.cells scope.names []) = cl at IK ⊢
  have pg := hg sC HC sC.heap.objs.size cl fp
  have pt := ht sC HC sC.heap.objs.size cl fp
  have pe := he sC HC sC.heap.objs.size cl fp
  have nC : ∀ b ∈ fp, HC b = none := fun b hb => (fC b hb).1.1
  generalize hce : compEnvC scope cl sC.heap.objs.size X.env = ce at IK pg pt pe ⊢
  have locals : ce.locals = sC.heap.objs.size := by subst hce; rfl
  generalize hsK : ({ sC with heap := pushCells (sC.heap.push { cls := .type "dict", data := .dict #[] }) scope.names } : Shared) = sK at IK ⊢
  have stK : tn 0 sK.heap := T.keep _ _ _ stC fun b _ o e => by rw [← hsK]; exact pushCells_keeps _ _ _ _ (Heap.get?_push_of_some _ e)
  have stand : ∀ {σ' : L2.St} {H' : Hp} {s' : Shared}, Inv (X.blk sC HC scope ce fp) [] σ' H' s' → (∀ b ∈ fp, H' b = none) → ∀ b ∈ fp, FpOk (X.blk sC HC scope ce fp) [] H' b := fun {σ' H' s'} I' hn b hb =>
    ⟨hn b hb, (I'.ok.exf b hb).1, I'.ok.exfs b hb, .inl hb, fun x c e => (I'.ok.exf b hb).2 x c e, fun p hp => absurd (show p ∈ ([] : List (Addr × Obj)) ++ [] from hp) (by simp)⟩
  have loop : codeAny (model X.prog X.w) X.A (.compLoop (.SetComp elt [⟨tg, iter, ifs, 0⟩] scope pos) 0 (.ref it) (.ref D) ce) (compPost (model X.prog X.w) X.A X.xe use Qf (.ref D) sC.heap.objs.size) sK := by
    refine PpSet.compLoopS_any (fun n s' => ∃ i H', Inv (X.blk sC HC scope ce fp) [] (wipe σ (own.map (·.2))) H' s' ∧ tn i s'.heap ∧ (∀ b ∈ fp, H' b = none) ∧ W i n H') ?_ m0 ⟨0, HC, IK, stK, nC, w0⟩
    rintro n sL ⟨i, HL, IL, stL, nL, wL⟩
    rcases turn i n HL wL with ⟨stop, qq⟩ | ⟨go, Nx, hNx, step⟩
    · refine thnF (T.done (X.blk sC HC scope ce fp) rfl rfl rfl hc i [] sL _ HL (fun _ _ => False) IL (stand IL nL) stL stop) fun r sM ⟨hr, IM⟩ => ?_
      subst hr
      have IX : Inv X pins σ HL sM := IC.call' (ch := fp) IM.os IM.base IM.hok IM.bare fun b hb => ⟨(fC b hb).1.2.2.2.1, (fC b hb).1.2.1, (fC b hb).1.2.2.2.2.1, (fC b hb).1.2.2.2.2.2⟩
      have nl : HL sC.heap.objs.size = none := by
        have z : HL ce.locals = none := IM.free
        rw [locals] at z
        exact z
      obtain ⟨m, hn, _⟩ := IM.loc
      have hn : sM.heap.Ns ce.locals m := hn
      rw [locals] at hn
      exact hRR D sC.heap.objs.size sM m HL IX qq hn (IC.fpOk (Nat.le_refl _) nl)
    · refine thnF (T.item (X.blk sC HC scope ce fp) rfl rfl rfl hc i [] sL _ HL (fun _ _ => False) IL (stand IL nL) stL go) fun r sM ⟨u, hr, hM⟩ => ?_
      subst hr
      refine thnF hM fun _ sN ⟨x, HN, IN, rN, yN, stN, nN⟩ => ?_
      have INp := IN.pinned (stand IN nN) (T.obj _ _ stN)
      refine thnF (pg.run _ sN _ HN x u _ INp rN (step x HN yN)) fun _ sO ⟨σO, HO_, IO_, hwO, qO⟩ => ?_
      refine thnF (pt.run _ sO σO HO_ _ IO_ qO) fun b sP ⟨HP, IP, qP⟩ => ?_
      have fin : ∀ {s' : Shared} {H' : Hp}, Inv (X.blk sC HC scope ce fp) ([] ++ pinsAt fp sN.heap) σO H' s' → Nx H' →
          ∃ m, m < n ∧ ∃ i H', Inv (X.blk sC HC scope ce fp) [] (wipe σ (own.map (·.2))) H' s' ∧ tn i s'.heap ∧ (∀ b ∈ fp, H' b = none) ∧ W i m H' := fun {s' H'} I' nx => by
        obtain ⟨m', hm, w'⟩ := hNx H' nx
        have kept : ∀ b ∈ fp, ∀ o, sN.heap.get? b = some o → s'.heap.get? b = some o ∧ H' b = none := fun b hb o e =>
          let z := I'.pin (b, o) (List.mem_append_right _ (List.mem_append_right _ (mem_pinsAt hb e)))
          ⟨z.1, z.2.1⟩
        refine ⟨m', hm, i + 1, H', (I'.unpinned (pins := [])).weak (by rw [← hwO, wipe_length]) (fun j v e => ?_), T.keep _ _ _ stN fun b hb o e => (kept b hb o e).1, fun b hb => ?_, w'⟩
        · rw [← hwO] at e
          exact (wipe_some e).1
        · exact (T.obj _ _ stN b hb).elim fun o z => (kept b hb o z.1).2
      cases b with
      | false =>
        simp only [Bool.false_eq_true, if_false] at qP ⊢
        exact fin IP qP
      | true =>
        simp only [if_true] at qP ⊢
        refine thnF (pe.run _ sP σO HP _ IP qP) fun v sQ ⟨yv, HQ, IQ, rQ, z, zs, ey, hDQ, hzQ, nx⟩ => ?_
        subst ey
        obtain ⟨tk, rfl⟩ : ∃ tk, v = Value.str z tk := rQ
        exact tsetO_add (X := X.blk sC HC scope ce fp) IQ hDQ hzQ fun sR IR => fin IR nx
  exact PpSet.codeAny_compStart_set loop (T.self X.A 0 _ _ _ stK loop)
theorem pe_scT {elt tg iter : Expr} {ifs : List Expr} {scope : Scope} {own : List (PySem.Str × Nat)} {pos : Pos} {wi : TI} {g : TG} {tt : TT} {te : TE} (hc : X.calm = true) (hN : X.N.Nodup) (hi : PI X tg iter wi)
    (ok : BlkOk X.N X.env.scope scope own)
    (hg : ∀ (s : Shared) (H : Hp) (C : Addr) (cl : List (PySem.Str × Addr)) (fp : List Addr), PG (X.blk s H scope (compEnvC scope cl C X.env) fp) tg g)
    (ht : ∀ (s : Shared) (H : Hp) (C : Addr) (cl : List (PySem.Str × Addr)) (fp : List Addr), PTs (X.blk s H scope (compEnvC scope cl C X.env) fp) ifs tt)
    (he : ∀ (s : Shared) (H : Hp) (C : Addr) (cl : List (PySem.Str × Addr)) (fp : List Addr), PE (X.blk s H scope (compEnvC scope cl C X.env) fp) elt te)
    (hs : ∀ x, foldedSetIterable iter X.env x = pure x := by intro _; rfl) : PE X (.SetComp elt [⟨tg, iter, ifs, 0⟩] scope pos) (tScT X.w wi g tt te (own.map (·.2))) := by
  refine ⟨fun pins s σ H Q I h => ?_⟩
  rw [PpSet.eval_SetComp]
  refine scT_core hc hN I hi ok hg ht he hs h fun D C s' m H' I' q hn f => ⟨m, hn, fun h'' sb => ?_⟩
  obtain ⟨f0, f1, f2, f3, f4, f5⟩ := f
  exact ⟨.ref D, H', I'.turned (t' := s'.toks) (fun b o hb e => (sb.2 b hb).trans e) f0 f1 f3 f4 f5, rfl, q⟩
end
/-- the texts of a list, each once, by first place -/
def once (zs : List Str) : List Str := zs.foldl addT []
theorem once_snoc (zs : List Str) (z : Str) : once (zs ++ [z]) = addT (once zs) z := by
  unfold once
  rw [List.foldl_append]
  rfl
theorem once_len (zs : List Str) : (once zs).length ≤ zs.length := by
  have h : ∀ (l acc : List Str), (l.foldl addT acc).length ≤ acc.length + l.length := by
    intro l
    induction l with
    | nil => intro acc; exact Nat.le_refl _
    | cons z l ih =>
      intro acc
      have e := ih (addT acc z)
      have f : (addT acc z).length ≤ acc.length + 1 := by
        unfold addT
        split
        · omega
        · simp
      show (l.foldl addT (addT acc z)).length ≤ _
      rw [List.length_cons]
      omega
  have := h zs []
  simpa [once] using this
theorem once_mem (zs : List Str) (y : Str) : y ∈ once zs ↔ y ∈ zs := by
  have h : ∀ (l acc : List Str), y ∈ l.foldl addT acc ↔ y ∈ acc ∨ y ∈ l := by
    intro l
    induction l with
    | nil => intro acc; simp
    | cons z l ih =>
      intro acc
      show y ∈ l.foldl addT (addT acc z) ↔ _
      rw [ih]
      unfold addT
      split
      · rename_i m
        simp only [List.mem_cons]
        constructor
        · rintro (a | a)
          · exact .inl a
          · exact .inr (.inr a)
        · rintro (a | a | a)
          · exact .inl a
          · exact .inl (a ▸ m)
          · exact .inr a
      · simp only [List.mem_append, List.mem_cons, List.not_mem_nil, or_false, or_assoc]
  simpa [once] using h zs []
theorem once_nodup (zs : List Str) : (once zs).Nodup := by
  have h : ∀ (l acc : List Str), acc.Nodup → (l.foldl addT acc).Nodup := by
    intro l
    induction l with
    | nil => intro acc h; exact h
    | cons z l ih =>
      intro acc h
      refine ih _ ?_
      unfold addT
      split
      · exact h
      · rename_i m
        exact nd_snoc h m
  exact h zs [] .nil
end Cs

set_option Elab.async false
set_option linter.all false
set_option maxRecDepth 100000
set_option maxHeartbeats 4000000
/-! Plain laws: texts in order, tables of words and integers, what is told of a table. -/
namespace Cs
open PySem L2 PyProof.Rows
/-! ### the order of texts -/
def SLt (a b : Str) : Prop := a.cps.toList < b.cps.toList
theorem slt_irrefl (a : Str) : ¬ SLt a a := List.lt_irrefl _
theorem slt_trans {a b c : Str} (h : SLt a b) (k : SLt b c) : SLt a c := List.lt_trans h k
theorem str_ext {a b : Str} (h : a.cps.toList = b.cps.toList) : a = b := by
  cases a
  cases b
  congr
  exact Array.toList_inj.mp h
theorem slt_total {a b : Str} (h : ¬ SLt b a) (n : a ≠ b) : SLt a b := by
  have h1 : a.cps.toList ≤ b.cps.toList := List.not_lt.mp h
  apply Classical.byContradiction
  intro q
  exact n (str_ext (List.le_antisymm h1 (List.not_lt.mp q)))
theorem slt_of_le_lt {a b c : Str} (h : ¬ SLt b a) (k : SLt b c) : SLt a c := List.lt_of_le_of_lt (List.not_lt.mp h) k
/-- ascending, none twice -/
def Asc (zs : List Str) : Prop := zs.Pairwise SLt
theorem rising_pw : ∀ (r : List Str) (p : Str), risingS p r = true → (p :: r).Pairwise (fun a b => ¬ SLt b a)
  | [], p, _ => List.pairwise_singleton _ _
  | x :: r, p, h => by
    have h : (!PySem.Spec.ltCps x.cps.toList p.cps.toList && risingS x r) = true := h
    rw [Bool.and_eq_true, ltCps_eq] at h
    have ih := rising_pw r x h.2
    have h1 : ¬ SLt x p := by
      have := h.1
      intro q
      rw [decide_eq_true (show x.cps.toList < p.cps.toList from q)] at this
      cases this
    refine List.pairwise_cons.mpr ⟨fun y hy => ?_, ih⟩
    rcases List.mem_cons.mp hy with e | e
    · rw [e]
      exact h1
    · have h2 := (List.pairwise_cons.mp ih).1 y e
      exact fun q => h1 (slt_of_le_lt h2 q)
theorem sorted_pw : ∀ {zs : List Str}, sortedS zs = true → zs.Pairwise (fun a b => ¬ SLt b a)
  | [], _ => .nil
  | x :: r, h => rising_pw r x h
theorem asc_of_sorted {zs : List Str} (h : sortedS zs = true) (n : zs.Nodup) : Asc zs := by
  have a := sorted_pw h
  have b : zs.Pairwise (fun a b => ¬ SLt b a ∧ a ≠ b) := a.and n
  exact b.imp fun h => slt_total h.1 h.2
theorem Asc.nodup {zs : List Str} (h : Asc zs) : zs.Nodup := h.imp fun {a b} (q : SLt a b) (e : a = b) => slt_irrefl a (by rw [← e] at q; exact q)
/-- ascending lists with the same members are one -/
theorem asc_eq : ∀ {xs ys : List Str}, Asc xs → Asc ys → (∀ z, z ∈ xs ↔ z ∈ ys) → xs = ys
  | [], [], _, _, _ => rfl
  | [], y :: ys, _, _, h => absurd ((h y).mpr List.mem_cons_self) (by simp)
  | x :: xs, [], _, _, h => absurd ((h x).mp List.mem_cons_self) (by simp)
  | x :: xs, y :: ys, a, b, h => by
    obtain ⟨a1, a2⟩ := List.pairwise_cons.mp a
    obtain ⟨b1, b2⟩ := List.pairwise_cons.mp b
    have e : x = y := by
      rcases List.mem_cons.mp ((h x).mp List.mem_cons_self) with e | e
      · exact e
      · rcases List.mem_cons.mp ((h y).mpr List.mem_cons_self) with f | f
        · exact f.symm
        · exact absurd (slt_trans (a1 y f) (b1 x e)) (slt_irrefl x)
    subst e
    rw [asc_eq a2 b2 fun z => ?_]
    constructor
    · intro m
      rcases List.mem_cons.mp ((h z).mp (List.mem_cons_of_mem _ m)) with e | e
      · exact absurd (e ▸ a1 z m) (slt_irrefl _)
      · exact e
    · intro m
      rcases List.mem_cons.mp ((h z).mpr (List.mem_cons_of_mem _ m)) with e | e
      · exact absurd (e ▸ b1 z m) (slt_irrefl _)
      · exact e
/-! ### tables -/
abbrev Tab := List (Str × Int)
def keys (t : Tab) : List Str := t.map (·.1)
def look (t : Tab) (z : Str) : Option Int := (t.find? fun q => decide (q.1 = z)).map (·.2)
def val (t : Tab) (z : Str) : Int := (look t z).getD 0
def put (t : Tab) (z : Str) (n : Int) : Tab := if (t.any fun q => decide (q.1 = z)) = true then t.map (fun q => if q.1 = z then (q.1, n) else q) else t ++ [(z, n)]
def drop (t : Tab) (z : Str) : Tab := t.filter fun q => decide (q.1 ≠ z)
theorem look_none : ∀ {t : Tab} {z : Str}, z ∉ keys t → look t z = none
  | [], _, _ => rfl
  | q :: t, z, h => by
    have h1 : q.1 ≠ z := fun e => h (by rw [← e]; exact List.mem_cons_self)
    have h2 : z ∉ keys t := fun m => h (List.mem_cons_of_mem _ m)
    have ih := look_none h2
    unfold look at ih ⊢
    rw [List.find?_cons, decide_eq_false h1]
    exact ih
theorem look_some : ∀ {t : Tab} {z : Str}, z ∈ keys t → ∃ n, look t z = some n ∧ (z, n) ∈ t
  | [], _, h => by simp [keys] at h
  | q :: t, z, h => by
    by_cases e : q.1 = z
    · refine ⟨q.2, ?_, ?_⟩
      · unfold look
        rw [List.find?_cons, decide_eq_true e]
        rfl
      · rw [← e]
        exact List.mem_cons_self
    · have h2 : z ∈ keys t := (List.mem_cons.mp h).resolve_left fun q => e q.symm
      obtain ⟨n, a, b⟩ := look_some h2
      refine ⟨n, ?_, List.mem_cons_of_mem _ b⟩
      unfold look at a ⊢
      rw [List.find?_cons, decide_eq_false e]
      exact a
theorem look_mem {t : Tab} (nd : (keys t).Nodup) {z : Str} {n : Int} (h : (z, n) ∈ t) : look t z = some n := by
  induction t with
  | nil => cases h
  | cons q t ih =>
    obtain ⟨n1, n2⟩ := List.nodup_cons.mp (show (q.1 :: keys t).Nodup from nd)
    rcases List.mem_cons.mp h with e | e
    · subst e
      unfold look
      rw [List.find?_cons, decide_eq_true rfl]
      rfl
    · have h1 : q.1 ≠ z := fun f => n1 (f ▸ List.mem_map.mpr ⟨_, e, rfl⟩)
      have := ih n2 e
      unfold look at this ⊢
      rw [List.find?_cons, decide_eq_false h1]
      exact this
theorem any_keys (t : Tab) (z : Str) : (t.any fun q => decide (q.1 = z)) = decide (z ∈ keys t) := by
  rw [Bool.eq_iff_iff, List.any_eq_true, decide_eq_true_eq]
  constructor
  · rintro ⟨q, m, e⟩
    exact List.mem_map.mpr ⟨q, m, of_decide_eq_true e⟩
  · intro m
    obtain ⟨q, m, e⟩ := List.mem_map.mp m
    exact ⟨q, m, decide_eq_true e⟩
theorem keys_put (t : Tab) (z : Str) (n : Int) : keys (put t z n) = if z ∈ keys t then keys t else keys t ++ [z] := by
  unfold put
  rw [any_keys]
  by_cases h : z ∈ keys t
  · rw [if_pos (decide_eq_true h), if_pos h]
    unfold keys
    rw [List.map_map]
    apply List.map_congr_left
    intro q _
    simp only [Function.comp]
    split <;> rfl
  · rw [if_neg (by simpa using h), if_neg h]
    unfold keys
    rw [List.map_append]
    rfl
theorem mem_keys_put {t : Tab} {z y : Str} {n : Int} : y ∈ keys (put t z n) ↔ y ∈ keys t ∨ y = z := by
  rw [keys_put]
  split
  · rename_i h
    exact ⟨.inl, fun q => q.elim id fun e => e ▸ h⟩
  · rw [List.mem_append, List.mem_singleton]
theorem nd_put {t : Tab} {z : Str} {n : Int} (h : (keys t).Nodup) : (keys (put t z n)).Nodup := by
  rw [keys_put]
  split
  · exact h
  · rename_i m
    exact nd_snoc h m
theorem mem_put {t : Tab} {z y : Str} {n m : Int} (h : (y, m) ∈ put t z n) : (y = z ∧ m = n) ∨ (y ≠ z ∧ (y, m) ∈ t) := by
  unfold put at h
  rw [any_keys] at h
  by_cases k : z ∈ keys t
  · rw [if_pos (decide_eq_true k)] at h
    obtain ⟨q, hq, e⟩ := List.mem_map.mp h
    by_cases c : q.1 = z
    · rw [if_pos c] at e
      left
      exact ⟨by rw [← c]; exact (congrArg Prod.fst e).symm, (congrArg Prod.snd e).symm⟩
    · rw [if_neg c] at e
      right
      subst e
      exact ⟨c, hq⟩
  · rw [if_neg (by simpa using k)] at h
    rcases List.mem_append.mp h with a | a
    · right
      exact ⟨fun e => k (e ▸ List.mem_map.mpr ⟨_, a, rfl⟩), a⟩
    · left
      have := List.mem_singleton.mp a
      exact ⟨congrArg Prod.fst this, congrArg Prod.snd this⟩
theorem look_put {t : Tab} {z y : Str} {n : Int} (h : (keys t).Nodup) : look (put t z n) y = if y = z then some n else look t y := by
  by_cases k : y ∈ keys (put t z n)
  · obtain ⟨m, a, b⟩ := look_some k
    rw [a]
    rcases mem_put b with ⟨e, f⟩ | ⟨e, f⟩
    · rw [if_pos e, f]
    · rw [if_neg e, look_mem h f]
  · rw [look_none k]
    have k2 : ¬ (y ∈ keys t ∨ y = z) := fun q => k (mem_keys_put.mpr q)
    rw [if_neg fun e => k2 (.inr e), look_none fun e => k2 (.inl e)]
theorem val_put {t : Tab} {z y : Str} {n : Int} (h : (keys t).Nodup) : val (put t z n) y = if y = z then n else val t y := by
  unfold val
  rw [look_put h]
  split <;> rfl
theorem keys_drop (t : Tab) (z : Str) : keys (drop t z) = (keys t).filter fun y => decide (y ≠ z) := by
  unfold keys drop
  rw [List.filter_map]
  rfl
theorem nd_drop {t : Tab} {z : Str} (h : (keys t).Nodup) : (keys (drop t z)).Nodup := by
  rw [keys_drop]
  exact h.filter _
theorem look_drop {t : Tab} {z y : Str} (h : (keys t).Nodup) : look (drop t z) y = if y = z then none else look t y := by
  by_cases k : y ∈ keys (drop t z)
  · obtain ⟨m, a, b⟩ := look_some k
    have c := List.mem_filter.mp b
    have d : y ≠ z := of_decide_eq_true c.2
    rw [a, if_neg d, look_mem h c.1]
  · rw [look_none k]
    by_cases e : y = z
    · rw [if_pos e]
    · rw [if_neg e, look_none]
      intro m
      apply k
      rw [keys_drop]
      exact List.mem_filter.mpr ⟨m, decide_eq_true e⟩
theorem val_drop {t : Tab} {z y : Str} (h : (keys t).Nodup) : val (drop t z) y = if y = z then 0 else val t y := by
  unfold val
  rw [look_drop h]
  split <;> rfl
theorem len_put (t : Tab) (z : Str) (n : Int) : (put t z n).length ≤ t.length + 1 := by
  unfold put
  split
  · rw [List.length_map]
    omega
  · rw [List.length_append]
    exact Nat.le_refl _
/-! ### what is told of a table: the words ascending whose integer is not 0 -/
/-- ws holds the table's words, ascending -/
def toldBy (t : Tab) (ws : List Str) : Tab := (ws.filter fun z => decide (val t z ≠ 0)).map fun z => (z, val t z)
/-- l is what is told of a table with these values -/
structure Told (f : Str → Int) (l : Tab) : Prop where
  asc : Asc (keys l)
  mem : ∀ z n, (z, n) ∈ l ↔ n = f z ∧ n ≠ 0
theorem Told.keys_iff {f : Str → Int} {l : Tab} (h : Told f l) (z : Str) : z ∈ keys l ↔ f z ≠ 0 := by
  constructor
  · intro m
    obtain ⟨⟨y, n⟩, hm, e⟩ := List.mem_map.mp m
    have e : y = z := e
    subst e
    obtain ⟨a, b⟩ := (h.mem _ _).mp hm
    rw [← a]
    exact b
  · intro q
    exact List.mem_map.mpr ⟨(z, f z), (h.mem _ _).mpr ⟨rfl, q⟩, rfl⟩
theorem Told.form {f : Str → Int} {l : Tab} (h : Told f l) : l = (keys l).map fun z => (z, f z) := by
  unfold keys
  rw [List.map_map]
  conv => lhs; rw [← List.map_id l]
  apply List.map_congr_left
  intro q m
  have := ((h.mem q.1 q.2).mp m).1
  show q = (q.1, f q.1)
  rw [← this]
theorem told_eq {f g : Str → Int} {l m : Tab} (a : Told f l) (b : Told g m) (h : ∀ z, f z = g z) : l = m := by
  have e : f = g := funext h
  subst e
  have k : keys l = keys m := asc_eq a.asc b.asc fun z => by rw [a.keys_iff, b.keys_iff]
  rw [a.form, b.form, k]
theorem told_of {t : Tab} {ws : List Str} (nd : (keys t).Nodup) (ha : Asc ws) (hm : ∀ z, z ∈ ws ↔ z ∈ keys t) : Told (val t) (toldBy t ws) := by
  have ek : keys (toldBy t ws) = ws.filter fun z => decide (val t z ≠ 0) := by
    unfold keys toldBy
    rw [List.map_map]
    exact List.map_id _
  refine ⟨?_, fun z n => ?_⟩
  · rw [ek]
    exact List.Pairwise.filter _ ha
  · unfold toldBy
    rw [List.mem_map]
    constructor
    · rintro ⟨y, m, e⟩
      have e1 : y = z := congrArg Prod.fst e
      have e2 : val t y = n := congrArg Prod.snd e
      subst e1
      subst e2
      exact ⟨rfl, of_decide_eq_true (List.mem_filter.mp m).2⟩
    · rintro ⟨rfl, q⟩
      refine ⟨z, List.mem_filter.mpr ⟨?_, decide_eq_true q⟩, rfl⟩
      rw [hm]
      apply Classical.byContradiction
      intro k
      exact q (by unfold val; rw [look_none k]; rfl)
/-! ### a table as a dict's pairs -/
def tv (t : Tab) : List (Key × V) := t.map fun q => (Sum.inr q.1, V.int q.2)
theorem tv_len (t : Tab) : (tv t).length = t.length := List.length_map _
theorem tv_val (t : Tab) (z : Str) : valV (tv t) (Sum.inr z) = (look t z).map V.int := by
  unfold valV tv look
  induction t with
  | nil => rfl
  | cons q t ih =>
    rw [List.map_cons, List.find?_cons, List.find?_cons]
    by_cases e : q.1 = z
    · rw [decide_eq_true e, decide_eq_true (show (Sum.inr q.1 : Key) = Sum.inr z by rw [e])]
      rfl
    · rw [decide_eq_false e, decide_eq_false (show ¬ (Sum.inr q.1 : Key) = Sum.inr z from fun f => e (Sum.inr.inj f))]
      exact ih
theorem tv_any (t : Tab) (z : Str) : ((tv t).any fun kv => decide (kv.1 = Sum.inr z)) = t.any fun q => decide (q.1 = z) := by
  unfold tv
  rw [List.any_map]
  congr 1
  funext q
  exact key_rr q.1 z
theorem tv_put (t : Tab) (z : Str) (n : Int) : putK (tv t) (Sum.inr z) (V.int n) = tv (put t z n) := by
  unfold putK put
  rw [tv_any]
  split
  · unfold tv
    rw [List.map_map, List.map_map]
    apply List.map_congr_left
    intro q _
    simp only [Function.comp]
    by_cases e : q.1 = z
    · rw [if_pos e, if_pos (show (Sum.inr q.1 : Key) = Sum.inr z by rw [e])]
    · rw [if_neg e, if_neg (show ¬ (Sum.inr q.1 : Key) = Sum.inr z from fun f => e (Sum.inr.inj f))]
  · unfold tv
    rw [List.map_append]
    rfl
theorem tv_drop (t : Tab) (z : Str) : dropK (tv t) (Sum.inr z) = tv (drop t z) := by
  unfold dropK drop tv
  rw [List.filter_map]
  congr 1
  apply List.filter_congr
  intro q _
  simp only [Function.comp]
  by_cases e : q.1 = z
  · simp [e]
  · have : ¬ (Sum.inr q.1 : Key) = Sum.inr z := fun f => e (Sum.inr.inj f)
    simp [e, this]
/-- pairs added up word by word -/
def addUp (ps : List (Str × Int)) : Tab := ps.foldl (fun t q => put t q.1 (val t q.1 + q.2)) []
/-- the integers of a word in pairs -/
def sumOf (ps : List (Str × Int)) (z : Str) : Int := ((ps.filter fun q => decide (q.1 = z)).map (·.2)).sum
theorem addUp_snoc (ps : List (Str × Int)) (q : Str × Int) : addUp (ps ++ [q]) = put (addUp ps) q.1 (val (addUp ps) q.1 + q.2) := by
  unfold addUp
  rw [List.foldl_append]
  rfl
theorem snoc_rec {α : Type} {C : List α → Prop} (h0 : C []) (h1 : ∀ l a, C l → C (l ++ [a])) : ∀ l, C l := by
  intro l
  have : ∀ n (l : List α), l.length = n → C l := by
    intro n
    induction n with
    | zero => intro l hl; rw [List.length_eq_zero_iff.mp hl]; exact h0
    | succ n ih =>
      intro l hl
      have hne : l ≠ [] := by intro e; rw [e] at hl; cases hl
      rw [← List.dropLast_concat_getLast hne]
      exact h1 _ _ (ih _ (by rw [List.length_dropLast, hl]; rfl))
  exact this _ l rfl
theorem addUp_nd : ∀ ps, (keys (addUp ps)).Nodup := snoc_rec List.nodup_nil fun l a h => by
  rw [addUp_snoc]
  exact nd_put h
theorem addUp_val (z : Str) : ∀ ps, val (addUp ps) z = sumOf ps z := snoc_rec rfl fun l a h => by
  rw [addUp_snoc, val_put (addUp_nd l)]
  unfold sumOf at h ⊢
  rw [List.filter_append, List.map_append, List.sum_append]
  by_cases e : a.1 = z
  · rw [if_pos e.symm]
    subst e
    rw [h]
    simp
  · rw [if_neg fun q => e q.symm, h]
    simp [e]
theorem addUp_len : ∀ ps, (addUp ps).length ≤ ps.length := snoc_rec (Nat.le_refl _) fun l a h => by
  rw [addUp_snoc, List.length_append]
  exact Nat.le_trans (len_put _ _ _) (Nat.succ_le_succ h)
/-- without zeros -/
def noZero (t : Tab) : Tab := t.filter fun q => decide (q.2 ≠ 0)
theorem noZero_nd {t : Tab} (h : (keys t).Nodup) : (keys (noZero t)).Nodup := by
  unfold keys noZero
  exact List.Nodup.sublist ((List.filter_sublist).map _) h
theorem noZero_mem {t : Tab} {q : Str × Int} : q ∈ noZero t ↔ q ∈ t ∧ q.2 ≠ 0 := by
  unfold noZero
  rw [List.mem_filter, decide_eq_true_eq]
theorem noZero_val {t : Tab} (h : (keys t).Nodup) (z : Str) : val (noZero t) z = val t z := by
  unfold val
  by_cases k : z ∈ keys (noZero t)
  · obtain ⟨n, a, b⟩ := look_some k
    rw [a, look_mem h (noZero_mem.mp b).1]
  · rw [look_none k]
    by_cases m : z ∈ keys t
    · obtain ⟨n, a, b⟩ := look_some m
      rw [a]
      by_cases e : n = 0
      · rw [e]
        rfl
      · exact absurd (List.mem_map.mpr ⟨(z, n), noZero_mem.mpr ⟨b, e⟩, rfl⟩) k
    · rw [look_none m]
/-- a table as Counts hold it -/
structure Held (t : Tab) : Prop where
  nd : (keys t).Nodup
  nz : ∀ q ∈ t, q.2 ≠ 0
theorem Held.of {t : Tab} (h : (keys t).Nodup) : Held (noZero t) := ⟨noZero_nd h, fun q m => (noZero_mem.mp m).2⟩
theorem Held.keys_iff {t : Tab} (h : Held t) (z : Str) : z ∈ keys t ↔ val t z ≠ 0 := by
  unfold val
  constructor
  · intro m
    obtain ⟨n, a, b⟩ := look_some m
    rw [a]
    exact h.nz _ b
  · intro q
    apply Classical.byContradiction
    intro m
    rw [look_none m] at q
    exact q rfl
/-- the pairs of held counts, by their words ascending -/
theorem Held.told {t : Tab} (h : Held t) {ws : List Str} (ha : Asc ws) (hm : ∀ z, z ∈ ws ↔ z ∈ keys t) : Told (val t) (ws.map fun z => (z, val t z)) := by
  have := told_of h.nd ha hm
  unfold toldBy at this
  rw [List.filter_eq_self.mpr] at this
  · exact this
  · intro z m
    exact decide_eq_true ((h.keys_iff z).mp ((hm z).mp m))
end Cs

set_option Elab.async false
set_option linter.all false
set_option maxRecDepth 100000
set_option maxHeartbeats 4000000
/-! What an own class's special methods do: len(o), o[i], o[i] = v; classes called with a starred list. -/
namespace Cs
open PySem PySem.Spec PyProof.Rows L2
/-- a special method of the class at C -/
structure Spc (K : PySem.W.Frag) (C : Addr) (m : Str) (f : Addr) : Prop where
  at_ : PySem.W.findIn K (.ref C) m = some (some (.ref f))
  fn : PySem.W.isFn K (.ref f) = true
section
variable {X : Cx} {CX : CXT} {k i : Nat} {f C g : Addr} {fd : FuncData} {ps : List Str} {sp : Sp} {dvs : List V} {ds : List Value} {E : XK} {x m : Str} {e o : Expr} {es : List Expr} {te ta : TE} {t : TA} {p sp_ pos apos : Pos}
/-- a def run one level down -/
theorem run_fn1 {pins : List (Addr × Obj)} {σ : L2.St} {H : Hp} {s : Shared} {Q : VK} {us : List Value} {vs : List V} (F : FnOk X.prog X.w X.K X.mg X.base CX k f fd ps sp) (hr : Room (k + 1) X.A) (hb : Binds X.K fd ps []) (hx : Passes CX X E)
    (I : Inv X pins σ H s) (r : Vals vs us) (h : sp vs H Q E) : wpAny (model X.prog X.w) X.A.in1 (call (.ref f) us) (EP X pins σ Q) X.xe s := by
  have hl : us.length = ps.length := by rw [← r.length]; exact F.len _ _ _ _ h
  have hb' := hb s us I.kIn (by rw [List.append_nil]; exact hl)
  rw [List.append_nil] at hb'
  refine wpAny_call (codeAny_mono (F.run X.A.in1 X.stack s H ⟨us, []⟩ us vs Q E hr.in1 I.env0.in1 hb' r h) fun r s' hq => ?_)
  cases r with
  | error e => exact hx pins σ H s e s' I hq
  | ok fl =>
    cases fl with
    | ret u => exact I.after hq
    | next => exact False.elim hq
    | brk => exact False.elim hq
    | cont => exact False.elim hq
theorem ins_inst {pins : List (Addr × Obj)} {σ : L2.St} {H : Hp} {s : Shared} {a dx : Addr} {fs : List (Str × V)} (I : Inv X pins σ H s) (h : H a = some (.ins C dx fs)) : ∃ ox od, PySem.W.InstAt s.heap a ox C od ∧ ox.data = .plain := by
  obtain ⟨mA, O, _⟩ := ins_get I.hok h
  obtain ⟨od, J, _⟩ := O.look
  exact ⟨_, _, J, rfl⟩
/-- len(o) by an own __len__ -/
def rLenO (C : Addr) (sp : Sp) (E : XK) : List V → Hp → VK → Prop := fun xs H Q => ∃ a dx fs, xs = [.ref a] ∧ H a = some (.ins C dx fs) ∧ sp [.ref a] H (fun v H2 => ∃ n : Int, v = .int n ∧ (0 ≤ n ∧ n < 2 ^ 63) ∧ Q (.int n) H2) E
theorem call_lenO (c : Spc X.K C "__len__" f) (F : FnOk X.prog X.w X.K X.mg X.base CX k f fd ps sp) (hr : Room (k + 1) X.A) (hb : Binds X.K fd ps []) (hx : Passes CX X E) : CallR X (.builtin "len") (rLenO C sp E) := by
  intro pins s σ H xs us Q I r h
  obtain ⟨a, dx, fs, rfl, ha, q⟩ := h
  rw [Vals.ref1 r]
  obtain ⟨ox, od, J, _⟩ := ins_inst I ha
  obtain ⟨m, Fr⟩ := I.fr
  refine PySem.W.len_K Fr I.ok.mod.kin J c.at_ c.fn (wpAny_mono (run_fn1 (us := [.ref a]) (vs := [.ref a]) F hr hb hx I (.cons rfl .nil) q) (fun v s' z => ?_) fun _ _ z => z)
  obtain ⟨v0, H2, I2, rv, n, e, hn, q2⟩ := z
  subst e
  obtain ⟨tk, rfl⟩ := rv
  exact ⟨hn, .int n, H2, I2.tok _, ⟨_, rfl⟩, q2⟩
/-- o[i] = v by an own __setitem__ -/
def rSetO (C : Addr) (sp : Sp) (E : XK) : V → V → V → Hp → (Hp → Prop) → Prop := fun o i v H Q => ∃ a dx fs, o = .ref a ∧ H a = some (.ins C dx fs) ∧ sp [.ref a, i, v] H (fun _ H2 => Q H2) E
theorem set_own (c : Spc X.K C "__setitem__" f) (hq : PySem.W.noSeq X.K C = true) (F : FnOk X.prog X.w X.K X.mg X.base CX k f fd ps sp) (hr : Room k X.A) (hb : Binds X.K fd ps []) (hx : Passes CX X E) : PSet X (rSetO C sp E) := by
  intro pins s σ H o i v ov iv u Q I ro ri rv h
  obtain ⟨a, dx, fs, rfl, ha, q⟩ := h
  cases ro
  obtain ⟨ox, od, J, _⟩ := ins_inst I ha
  obtain ⟨m, Fr⟩ := I.fr
  refine PySem.W.ksp_setItem Fr I.ok.mod.kin J hq c.at_ c.fn ?_
  refine wpAny_mono (run_fn (us := [.ref a, iv, u]) (vs := [.ref a, i, v]) (dvs := []) F hr hb .nil hx I (.cons rfl (.cons ri (.cons rv .nil))) q) (fun v s' z => ?_) fun _ _ z => z
  obtain ⟨v0, H2, I2, _, q2⟩ := z
  exact ⟨H2, I2, q2⟩
/-- C(*y), C a class of the module -/
def tMkS (K : PySem.W.Frag) (C : Addr) (sp : Sp) (E : XK) (te : TE) : TE := fun σ H Q => te σ H fun y H1 => ∃ a xs, y = V.ref a ∧ (SqT K H1 a xs ∨ SqL K H1 a xs) ∧ ∀ x dx, H1 x = none → H1 dx = none → dx ≠ x →
  sp (V.ref x :: xs) (upd (upd H1 dx (.own x)) x (.ins C dx [])) (fun v H2 => v = .non ∧ Q (.ref x) H2) E
theorem pe_mkS (M : Mk X.K C f) (F : FnR X.prog X.w X.K X.mg X.base CX k f sp) (hr : Room (k + 1) X.A) (hg : Gl X x) (hm : X.mg x = some (.ref C)) (hx : Passes CX X E) (he : PE X e te) (hd : (x == ("__debug__" : Str)) = false := by decide)
    (hst : starEach [.Starred e sp_] X.env = [(true, eval e X.env)] := by rfl) : PE X (.Call (.Name x p) [.Starred e sp_] [] pos) (tMkS X.K C sp E te) := by
  refine ⟨fun pins s σ H Q I h => ?_⟩
  refine wpAny_Call_Name_kw (ld_glob I hg hm ?_ hd)
  refine PySem.W.callWith_S (h₀ := X.base) I.ok.mod.kin M.kp (thn (he.run pins s σ H _ I h) fun v s1 ⟨y, H1, I1, ry, a, xs, ey, hxs, q⟩ => ?_) hst
  subst ey
  obtain rfl : v = Value.ref a := ry
  exact StX.star_any I1 hxs fun us s2 I2 rv => ⟨I2.kIn, StX.run_makeR M F hr hx I2 rv q⟩
/-- c(*y), c a local name that holds the class -/
theorem pe_mkSL (M : Mk X.K C f) (F : FnR X.prog X.w X.K X.mg X.base CX k f sp) (hr : Room (k + 1) X.A) (hN : X.N[i]? = some x) (hv : Vis X.env.scope x) (hx : Passes CX X E) (he : PE X e te) (hdb : (x == ("__debug__" : Str)) = false := by decide)
    (hcd : (x == ("__classdict__" : Str)) = false := by decide) (hst : starEach [.Starred e sp_] X.env = [(true, eval e X.env)] := by rfl) :
    PE X (.Call (.Name x p) [.Starred e sp_] [] pos) (fun σ H Q => σ[i]? = some (some (.ref C)) ∧ tMkS X.K C sp E te σ H Q) := by
  refine ⟨fun pins s σ H Q I h => ?_⟩
  obtain ⟨hs, h⟩ := h
  refine wpAny_Call_Name_kw (thn ((pe_var (pos := p) hN hv hdb hcd).run pins s σ H (fun v H1 => v = .ref C ∧ H1 = H) I ⟨.ref C, hs, rfl, rfl⟩) fun u s0 ⟨v, H0, I0, r0, q0⟩ => ?_)
  obtain ⟨rfl, rfl⟩ := q0
  cases r0
  refine PySem.W.callWith_S (h₀ := X.base) I.ok.mod.kin M.kp (thn (he.run pins s0 σ _ _ I0 h) fun v s1 ⟨y, H1, I1, ry, a, xs, ey, hxs, q⟩ => ?_) hst
  subst ey
  obtain rfl : v = Value.ref a := ry
  exact StX.star_any I1 hxs fun us s2 I2 rv => ⟨I2.kIn, StX.run_makeR M F hr hx I2 rv q⟩
/-- C(), by a positional promise -/
theorem pe_mkR0 (M : Mk X.K C f) (F : FnR X.prog X.w X.K X.mg X.base CX k f sp) (hr : Room (k + 1) X.A) (hg : Gl X x) (hm : X.mg x = some (.ref C)) (hx : Passes CX X E) (hdb : (x == ("__debug__" : Str)) = false := by decide) :
    PE X (.Call (.Name x p) [] [] pos) (StX.tMakeR C sp E tNil) := by
  refine ⟨fun pins s σ H Q I h => ?_⟩
  refine wpAny_Call_Name_kw (ld_glob I hg hm ?_ hdb)
  exact PySem.W.callWith_K0 I.kIn M.kp (StX.run_makeR (us := []) M F hr hx I .nil h)
/-- o.m() by a positional promise -/
theorem pe_methR0 {pl : Sem Bool} (he : PE X o ta) (c : Cls X.K C) (hm : Meth X.K C m f) (F : FnR X.prog X.w X.K X.mg X.base CX k f sp) (hr : Room k X.A) (hx : Passes CX X E)
    (ht : eval (.Call (.Attribute o m apos) [] [] pos) X.env = (do
      let ov ← eval o X.env
      standAt apos.atName
      let (f, first) ← holding [ov] (getMethod ov m pl)
      callWith pos f first (backTo pos (starEach [] X.env)) (backToKw pos (keywordEach [] X.env))) := by rfl) :
    PE X (.Call (.Attribute o m apos) [] [] pos) (tMethR C m sp E ta tNil) := by
  refine ⟨fun pins s σ H Q I h => ?_⟩
  refine PySem.W.methodCall_KW (pl := pl) (thn (he.run pins s σ H _ I h) fun u s1 ⟨x, H1, I1, rx, a, dx, fs, ex, ea, l, q⟩ => ?_) ht
  subst ex
  obtain rfl : u = Value.ref a := rx
  refine getmeth_ok I1 ea c hm l ?_
  exact PySem.W.callWith_K0 (first := [.ref a]) I1.kIn hm.kp (wpAny_call (run_fnR (us := [.ref a]) (vs := [.ref a]) F hr hx I1 (.cons rfl .nil) q))
end
end Cs

set_option Elab.async false
set_option linter.all false
set_option maxRecDepth 100000
set_option maxHeartbeats 4000000
/-! Operators of an own class: + - * & | ^ and the like, unary minus, abs, comparisons, op=, o[i]. -/
namespace Cs
open PySem PySem.Spec PyProof.Rows L2
/-- no value of the layer is NotImplemented -/
theorem back_of {X : Cx} {pins : List (Addr × Obj)} {σ : L2.St} {Q : VK} {u : Value} {s : Shared} (h : EP X pins σ Q u s) : PySem.W.CmpBack (EP X pins σ Q) u s := by
  obtain ⟨v, H', I, r, q⟩ := id h
  cases u <;> first | exact h | (cases v <;> first | (obtain ⟨_, z⟩ := r; cases z; done) | (exact absurd r (by intro z; cases z)))
section
variable {X : Cx} {CX : CXT} {k i : Nat} {f C g : Addr} {fd : FuncData} {ps : List Str} {sp : Sp} {E : XK} {a b : Expr} {ta tb : TE} {pos : Pos} {op : Operator}
/-- the class comes first in its own order -/
structure OpC (K : PySem.W.Frag) (C : Addr) (m : Str) (f : Addr) : Prop where
  sf : PySem.W.selfFirst K C = true
  at_ : PySem.W.findIn K (.ref C) m = some (some (.ref f))
  fn : PySem.W.isFn K (.ref f) = true
/-- x op y, both of the class -/
def rBinO (C : Addr) (sp : Sp) (E : XK) : R2 := fun x y H Q => ∃ p q dp dq fp fq, x = .ref p ∧ y = .ref q ∧ H p = some (.ins C dp fp) ∧ H q = some (.ins C dq fq) ∧ sp [.ref p, .ref q] H Q E
theorem op_own (c : OpC X.K C (PySem.dunder op.info.2) f) (F : FnOk X.prog X.w X.K X.mg X.base CX k f fd ps sp) (hr : Room k X.A) (hb : Binds X.K fd ps []) (hx : Passes CX X E) : OpR X (binaryOp op) (rBinO C sp E) := by
  intro pins s σ H x y v u Q I rx ry h
  obtain ⟨p, q, dp, dq, fp, fq, rfl, rfl, hp, hq, k⟩ := h
  cases rx
  cases ry
  obtain ⟨ox, od, J, _⟩ := ins_inst I hp
  obtain ⟨oy, oe, J2, _⟩ := ins_inst I hq
  obtain ⟨m, Fr⟩ := I.fr
  refine PySem.W.binop_K Fr I.ok.mod.kin J J2.type c.sf c.at_ c.fn ?_
  exact wpAny_mono (run_fn (us := [.ref p, .ref q]) (vs := [.ref p, .ref q]) (dvs := []) F hr hb .nil hx I (.cons rfl (.cons rfl .nil)) k) (fun v s' z => back_of z) fun _ _ z => z
/-- x op n, x of the class, n an int -/
def rBinI (C : Addr) (sp : Sp) (E : XK) : R2 := fun x y H Q => ∃ p dp fp n, x = .ref p ∧ y = .int n ∧ H p = some (.ins C dp fp) ∧ sp [.ref p, .int n] H Q E
structure OpT (K : PySem.W.Frag) (C : Addr) (nm : String) (f g : Addr) : Prop where
  sf : PySem.W.selfFirst K C = true
  at_ : PySem.W.findIn K (.ref C) (PySem.dunder nm) = some (some (.ref f))
  fn : PySem.W.isFn K (.ref f) = true
  rat : PySem.W.findIn K (.ref C) (dunderR nm) = some (some (.ref g))
  rfn : PySem.W.isFn K (.ref g) = true
  sub : PySem.W.subIn K (.type "int") (.ref C) = some false
  sub2 : PySem.W.subIn K (.ref C) (.type "int") = some false
theorem op_ownI {fo ro : Option Value} (c : OpT X.K C op.info.2 f g) (h1 : PySem.W.findIn X.K (.type "int") (PySem.dunder op.info.2) = some fo) (h2 : PySem.W.findIn X.K (.type "int") (dunderR op.info.2) = some ro)
    (F : FnOk X.prog X.w X.K X.mg X.base CX k f fd ps sp) (hr : Room k X.A) (hb : Binds X.K fd ps []) (hx : Passes CX X E) : OpR X (binaryOp op) (rBinI C sp E) := by
  intro pins s σ H x y v u Q I rx ry h
  obtain ⟨p, dp, fp, n, rfl, rfl, hp, k⟩ := h
  cases rx
  obtain ⟨t, rfl⟩ := ry
  obtain ⟨ox, od, J, _⟩ := ins_inst I hp
  obtain ⟨m, Fr⟩ := I.fr
  refine PySem.W.ksp_binT (T := "int") (b := .int n t) Fr I.ok.mod.kin J rfl c.sf c.at_ c.fn c.rat (.inr ⟨g, rfl⟩) h1 h2 c.sub ?_
  exact wpAny_mono (run_fn (us := [.ref p, .int n t]) (vs := [.ref p, .int n]) (dvs := []) F hr hb .nil hx I (.cons rfl (.cons ⟨t, rfl⟩ .nil)) k) (fun v s' z => back_of z) fun _ _ z => z
/-- int.__mul__ of an object that is no int -/
theorem mul_other {prog : Program} {w : World} {A : Around} {E : Value → Shared → Prop} {s : Shared} {x : Addr} {o : Obj} {n : Int} {t : Tok} {Q : Option Value → Shared → Prop} (ho : s.heap.get? x = some o) (hd : o.data = .plain) (h : Q none s) :
    wpAny (model prog w) A (tryMethod (.int n t) (PySem.dunder "mul") (.ref x)) Q E s := by
  unfold tryMethod
  refine wpAny_bind (PySem.wpAny_callSpecial?_slot (typeIs_int s n t) PySem.F.slot_int_mul (wpAny_call_entry PySem.F.slot_int_mul (typeIs_int s n t) PySem.F.entry_int_mul ?_ (PySem.F.args_int_mul_2 _ _)))
  unfold Builtin.«int.__mul__»
  obtain ⟨hp, gg, d, tk, os⟩ := s
  obtain ⟨cls, dict, data, slots⟩ := o
  subst hd
  have ho1 := ho
  wp_walk using wpAny_load ho1
  exact ⟨_, rfl, wpAny_pure h⟩
/-- n * x, x of the class: by its own __rmul__ -/
theorem mul_right {prog : Program} {w : World} {A : Around} {E : Value → Shared → Prop} {s : Shared} {K : PySem.W.Frag} {x : Addr} {ox : Obj} {od : Option Obj} {n : Int} {t : Tok} {Q : Value → Shared → Prop} {ro : Option Value} (X : K.In s.heap) (I : PySem.W.InstAt s.heap x ox C od) (hd : ox.data = .plain)
    (hx : s.heap.get? x = some ox) (c : OpT K C "mul" f g) (h1 : PySem.W.findIn K (.type "int") (PySem.dunder "mul") = some (some (.builtin "int.__mul__"))) (h2 : PySem.W.findIn K (.type "int") (dunderR "mul") = some ro)
    (h : wpAny (model prog w) A (call (.ref g) [.ref x, .int n t]) (PySem.W.CmpBack Q) E s) : wpAny (model prog w) A (binaryOp .Mult (.int n t) (.ref x)) Q E s := by
  obtain ⟨cd, rest, hcd, hm⟩ := PySem.W.ksp_first c.sf
  have one := PySem.W.ksp_try X I c.rat c.rfn h
  have oth := fun Q' (q : Q' none s) => mul_other (prog := prog) (w := w) (A := A) (E := E) (n := n) (t := t) (Q := Q') hx hd q
  have L1 : PySem.W.Looks (model prog w) s.heap (typeOf (.int n t)) (.type "int") := PySem.W.Looks.of_pure rfl
  have L2 : PySem.W.Looks (model prog w) s.heap (typeOf (.ref x)) (.ref C) := I.type
  have L3 : PySem.W.Looks (model prog w) s.heap (fillsNumberSlot (.type "int") "mul") true := by
    have := PySem.W.ksp_fillsT (M := model prog w) X h1 h2
    exact this
  have L4 : PySem.W.Looks (model prog w) s.heap (fillsNumberSlot (.ref C) "mul") true := PySem.W.fills_K X hcd hm c.at_
  have L5 : PySem.W.Looks (model prog w) s.heap (isSubtype (.ref C) (.type "int")) false := PySem.W.looks_subIn X c.sub2
  have L6 : PySem.W.Looks (model prog w) s.heap (numberSlotInPython (.type "int") "mul") false := PySem.W.Looks.of_pure rfl
  have hne : (Value.type "int" == Value.ref C) = false := Bool.eq_false_iff.mpr fun q => by cases beq_iff_eq.mp q
  have hi : Operator.Mult.info.2 = "mul" := rfl
  simp only [binaryOp]
  refine wpAny_holding (wpAny_bind ?_)
  rw [hi]
  unfold binaryOp1
  refine wpAny_bind (L1.here (wpAny_bind (L2.here (wpAny_bind (L3.here ?_)))))
  simp only [hne, Bool.false_eq_true, if_false]
  refine wpAny_bind (L4.here ?_)
  simp only [Bool.and_self, if_true, Bool.true_and, Bool.not_false]
  refine wpAny_bind (L5.here ?_)
  simp only [Bool.false_eq_true, if_false, Bool.not_false, if_true]
  refine wpAny_bind (L6.here ?_)
  simp only [Bool.false_eq_true, if_false]
  refine wpAny_bind (oth _ ?_)
  dsimp only
  refine wpAny_bind (wpAny_mono one (fun r s' z => ?_) fun _ _ e => e)
  obtain ⟨v, rfl, hq⟩ := z
  exact wpAny_bind (wpAny_rule (wpAny_pure (wpAny_pure hq)))
end
end Cs

set_option Elab.async false
set_option linter.all false
set_option maxRecDepth 100000
set_option maxHeartbeats 4000000
namespace Cs
open PySem PySem.Spec PyProof.Rows L2
section
variable {X : Cx} {CX : CXT} {k i : Nat} {f C g : Addr} {fd : FuncData} {ps : List Str} {sp : Sp} {E : XK} {a b : Expr} {ta tb : TE} {pos : Pos} {op : Operator}
theorem ins_obj {pins : List (Addr × Obj)} {σ : L2.St} {H : Hp} {s : Shared} {p dx : Addr} {fs : List (Str × V)} (I : Inv X pins σ H s) (h : H p = some (.ins C dx fs)) : ∃ ox od, PySem.W.InstAt s.heap p ox C od ∧ ox.data = .plain ∧ s.heap.get? p = some ox := by
  obtain ⟨mA, O, _⟩ := ins_get I.hok h
  obtain ⟨od, J, _⟩ := O.look
  exact ⟨_, _, J, rfl, J.at_⟩
/-- n * x -/
def rMulR (C : Addr) (sp : Sp) (E : XK) : R2 := fun x y H Q => ∃ p dp fp n, x = .int n ∧ y = .ref p ∧ H p = some (.ins C dp fp) ∧ sp [.ref p, .int n] H Q E
theorem op_mulR {ro : Option Value} (c : OpT X.K C "mul" f g) (h1 : PySem.W.findIn X.K (.type "int") (PySem.dunder "mul") = some (some (.builtin "int.__mul__"))) (h2 : PySem.W.findIn X.K (.type "int") (dunderR "mul") = some ro)
    (F : FnOk X.prog X.w X.K X.mg X.base CX k g fd ps sp) (hr : Room k X.A) (hb : Binds X.K fd ps []) (hx : Passes CX X E) : OpR X (binaryOp .Mult) (rMulR C sp E) := by
  intro pins s σ H x y v u Q I rx ry h
  obtain ⟨p, dp, fp, n, rfl, rfl, hp, k⟩ := h
  cases ry
  obtain ⟨t, rfl⟩ := rx
  obtain ⟨ox, od, J, hd, hg⟩ := ins_obj I hp
  refine mul_right I.kIn J hd hg c h1 h2 ?_
  exact wpAny_mono (run_fn (us := [.ref p, .int n t]) (vs := [.ref p, .int n]) (dvs := []) F hr hb .nil hx I (.cons rfl (.cons ⟨t, rfl⟩ .nil)) k) (fun v s' z => back_of z) fun _ _ z => z
/-- -x -/
def rNegO (C : Addr) (sp : Sp) (E : XK) : V → Hp → VK → Prop := fun x H Q => ∃ p dp fp, x = .ref p ∧ H p = some (.ins C dp fp) ∧ sp [.ref p] H Q E
theorem un_negO (c : Spc X.K C "__neg__" f) (F : FnOk X.prog X.w X.K X.mg X.base CX k f fd ps sp) (hr : Room k X.A) (hb : Binds X.K fd ps []) (hx : Passes CX X E) : UnR X (unaryOp .USub) (rNegO C sp E) := by
  intro pins s σ H x v Q I rx h
  obtain ⟨p, dp, fp, rfl, hp, k⟩ := h
  cases rx
  obtain ⟨ox, od, J, _⟩ := ins_inst I hp
  obtain ⟨m, Fr⟩ := I.fr
  exact PySem.W.ksp_neg Fr I.ok.mod.kin J c.at_ c.fn (run_fn (us := [.ref p]) (vs := [.ref p]) (dvs := []) F hr hb .nil hx I (.cons rfl .nil) k)
/-- abs(x) -/
def rAbsO (C : Addr) (sp : Sp) (E : XK) : List V → Hp → VK → Prop := fun xs H Q => ∃ p dp fp, xs = [.ref p] ∧ H p = some (.ins C dp fp) ∧ sp [.ref p] H Q E
theorem call_absO (c : Spc X.K C "__abs__" f) (F : FnOk X.prog X.w X.K X.mg X.base CX k f fd ps sp) (hr : Room (k + 1) X.A) (hb : Binds X.K fd ps []) (hx : Passes CX X E) : CallR X (.builtin "abs") (rAbsO C sp E) := by
  intro pins s σ H xs us Q I r h
  obtain ⟨p, dp, fp, rfl, hp, q⟩ := h
  rw [Vals.ref1 r]
  obtain ⟨ox, od, J, _⟩ := ins_inst I hp
  refine Calls.call_function_entry kind_abs plain_abs entry_abs (args_abs _) ?_
  unfold Builtin.«abs»
  refine wpAny_bind (m := oneArg "abs" _) (wpAny_pure ?_)
  refine wpAny_bind (m := callSpecial? (.ref p) (Str.ofString "__abs__")) (PySem.W.special_fn I.kIn J c.at_ (beq_iff_eq.mp c.fn) (wpAny_mono (run_fn1 (us := [.ref p]) (vs := [.ref p]) F hr hb hx I (.cons rfl .nil) q) (fun v s' z => ?_) fun _ _ z => z))
  exact wpAny_pure ⟨_, rfl, z⟩
/-- x op= y -/
theorem ip_own (c : OpC X.K C (dunderI op.info.2) f) (F : FnOk X.prog X.w X.K X.mg X.base CX k f fd ps sp) (hr : Room k X.A) (hb : Binds X.K fd ps []) (hx : Passes CX X E) : PIp X op (fun x y H Q => ∃ p dp fp, x = .ref p ∧ H p = some (.ins C dp fp) ∧ sp [.ref p, y] H Q E) := by
  intro pins s σ H x y v u Q I rx ry h
  obtain ⟨p, dp, fp, rfl, hp, k⟩ := h
  cases rx
  obtain ⟨ox, od, J, _⟩ := ins_inst I hp
  obtain ⟨m, Fr⟩ := I.fr
  refine PySem.W.ksp_inplace Fr I.ok.mod.kin J c.sf c.at_ c.fn ?_
  exact wpAny_mono (run_fn (us := [.ref p, u]) (vs := [.ref p, y]) (dvs := []) F hr hb .nil hx I (.cons rfl (.cons ry .nil)) k) (fun v s' z => back_of z) fun _ _ z => z
/-- x[y] by an own __getitem__ -/
def rIxO (C : Addr) (sp : Sp) (E : XK) : R2 := fun x y H Q => ∃ p dp fp, x = .ref p ∧ H p = some (.ins C dp fp) ∧ sp [.ref p, y] H Q E
theorem pe_ixO (c : Spc X.K C "__getitem__" f) (hf : PySem.W.fnIn X.K f = true) (F : FnOk X.prog X.w X.K X.mg X.base CX k f fd ps sp) (hr : Room (k + 1) X.A) (hb : Binds X.K fd ps []) (hx : Passes CX X E) (ha : PE X a ta) (hi : PE X b tb)
    (hsl : ∀ o i, subscripted b true (.ref o) i = runValue (.builtin "lifetime.subscript" ⟨[.ref o, i], []⟩) := by intro _ _; rfl) : PE X (.Subscript a b pos) (tOp (rIxO C sp E) ta tb) := by
  refine ⟨fun pins s σ H Q I h => ?_⟩
  refine Subscript_ (binT ha hi I h fun v u s2 x y H2 I2 rx ry q => ?_)
  obtain ⟨p, dp, fp, rfl, hp, q⟩ := q
  cases rx
  obtain ⟨ox, od, J, _⟩ := ins_inst I2 hp
  obtain ⟨m, Fr⟩ := I2.fr
  exact PySem.W.sub_K Fr I2.ok.mod.kin J c.at_ hf c.fn (run_fn1 (us := [.ref p, u]) (vs := [.ref p, y]) F hr hb hx I2 (.cons rfl (.cons ry .nil)) q) (hsl _ _)
end
end Cs

set_option Elab.async false
set_option linter.all false
set_option maxRecDepth 100000
set_option maxHeartbeats 4000000
/-! The law's draws: a source is a list of the script's cells and three numbers. -/
namespace Cs
open PySem L2
/-- the builtins and helper defs that are reached, by what the module's names hold -/
structure Bi (mg : Str → Option Value) : Prop where
  len : mg "len" = none
  int : mg "int" = none
  abs : mg "abs" = none
  list : mg "list" = none
  range : mg "range" = none
  sorted : mg "sorted" = none
  str : mg "str" = none
  isinstance : mg "isinstance" = none
  sum : mg "sum" = none
  tuple : mg "tuple" = none
  dict : mg "dict" = none
  all : mg "all" = none
  bool : mg "bool" = none
  enumerate : mg "enumerate" = none
/-- all but what stands at p is as it was -/
def Kp (p : Addr) (H H' : Hp) : Prop := ∀ b o, H b = some o → b ≠ p → H' b = some o
theorem Kp.refl (p : Addr) (H : Hp) : Kp p H H := fun _ _ h _ => h
theorem Kp.trans {p : Addr} {H H1 H2 : Hp} (a : Kp p H H1) (b : Kp p H1 H2) : Kp p H H2 := fun c o h n => b c o (a c o h n) n
theorem Kp.of {p : Addr} {H H1 : Hp} (a : Same H H1) : Kp p H H1 := fun c o h _ => a c o h
theorem Kp.upd {p : Addr} {H : Hp} {o : HO} : Kp p H (upd H p o) := fun c u h n => by rw [upd_ne n]; exact h
theorem Kp.seq {K : PySem.W.Frag} {p a : Addr} {H H' : Hp} {xs : List V} (k : Kp p H H') (h : SqL K H a xs) (n : a ≠ p) : SqL K H' a xs := by
  rcases h with (h | ⟨o, h⟩) | h
  · exact .inl (.inl (k _ _ h n))
  · exact .inl (.inr ⟨o, k _ _ h n⟩)
  · exact .inr h
theorem Same.new {H : Hp} {p : Addr} {o : HO} (h : H p = none) : Same H (L2.upd H p o) := fun b u e => by
  rw [upd_ne (ne_of_none e h)]
  exact e
/-- a source of draws at p, its cells at c -/
def Src (H : Hp) (p c : Addr) : Prop := ∃ (ns : List Int) (i l n : Int), H p = some (.lst [.ref c, .int i, .int l, .int n]) ∧ H c = some (.lst (ns.map V.int)) ∧ c ≠ p ∧ 0 ≤ i ∧ 0 ≤ l
theorem Src.keep {H H' : Hp} {p c : Addr} (h : Src H p c) (s : ∀ b o, (b = p ∨ b = c) → H b = some o → H' b = some o) : Src H' p c := by
  obtain ⟨ns, i, l, n, a, b, r⟩ := h
  exact ⟨ns, i, l, n, s _ _ (.inl rfl) a, s _ _ (.inr rfl) b, r⟩
theorem Src.same {H H' : Hp} {p c : Addr} (s : Same H H') (h : Src H p c) : Src H' p c := h.keep fun b o _ e => s b o e
theorem Src.at_p {H : Hp} {p c : Addr} (h : Src H p c) : ∃ xs, H p = some (.lst xs) := by
  obtain ⟨ns, i, l, n, a, _⟩ := h
  exact ⟨_, a⟩
theorem Src.at_c {H : Hp} {p c : Addr} (h : Src H p c) : ∃ xs, H c = some (.lst xs) := by
  obtain ⟨ns, i, l, n, a, b, _⟩ := h
  exact ⟨_, b⟩
theorem Src.new_p {H : Hp} {p c q : Addr} (h : Src H p c) (n : H q = none) : q ≠ p := by
  obtain ⟨xs, e⟩ := h.at_p
  exact (ne_of_none e n).symm
theorem Src.new_c {H : Hp} {p c q : Addr} (h : Src H p c) (n : H q = none) : q ≠ c := by
  obtain ⟨xs, e⟩ := h.at_c
  exact (ne_of_none e n).symm
theorem Src.tup_p {H : Hp} {p c t : Addr} {xs : List V} (h : Src H p c) (e : H t = some (.tup xs)) : t ≠ p := by
  obtain ⟨ys, a⟩ := h.at_p
  rintro rfl
  rw [e] at a
  cases a
theorem atI0 {α : Type} {a b c d : α} : atI [a, b, c, d] 0 = some a := rfl
theorem atI1 {α : Type} {a b c d : α} : atI [a, b, c, d] 1 = some b := rfl
theorem atI2 {α : Type} {a b c d : α} : atI [a, b, c, d] 2 = some c := rfl
theorem atI3 {α : Type} {a b c d : α} : atI [a, b, c, d] 3 = some d := rfl

def spMixed : Sp := fun vs H Q _ => ∃ c n : Int, vs = [.int c, .int n] ∧ ∀ v : Int, Q (.int v) H
def spDraw : Sp := fun vs H Q _ => ∃ (p c : Addr) (n : Int), vs = [.ref p, .int n] ∧ Src H p c ∧ 0 < n ∧ n < 1329227995784915872903807060280344576 ∧ ∀ (v : Int) (H' : Hp), 0 ≤ v → v < n → Src H' p c → Kp p H H' → Q (.int v) H'
def spSource (K : PySem.W.Frag) : Sp := fun vs H Q _ => ∃ (a : Addr) (ns : List Int), vs = [.ref a] ∧ SqL K H a (ns.map V.int) ∧ ∀ (p c : Addr) (H' : Hp), H p = none → H c = none → Same H H' → Src H' p c → Q (.ref p) H'

section
variable {P : Program} {w : World} {K : PySem.W.Frag} {mg : Str → Option Value} {base : Heap}
theorem ok_mixed {f : Addr} {fd : FuncData} (F : Fun K "_law_mixed" "_law_mixed" s_l_mixed f fd) (g : Bi mg) : FnOk P w K mg base CX0 1 f fd ["_law_cell", "_law_count"] spMixed := by
  refine F.ok sc_l_mixed (fun vs H Q E h => ?_) (fun cdv A outer s H vs Q E hr h => ?_)
  · obtain ⟨_, _, rfl, _⟩ := h
    rfl
  · obtain ⟨c, n, rfl, k⟩ := h
    refine ⟨_, (pss_cons (ps_if (pt_cmpR op_eq (pv 0) pe_int (nomark _)) (pss_one (ps_ret pe_int)) pss_nil)
      (pss_cons (ps_set (i := 2) sc_l_mixed.nd rfl (Or.inl rfl) (pe_op op_mod (pe_callTy call_int1 (by rfl) g.int (by decide +kernel) (pa_cons (pe_op op_add (pe_op op_mul (pv 0) pe_int) (pe_op op_mul (pv 1) pe_int)) pa_nil)) pe_int))
      (pss_one (ps_ret (pe_op op_fdiv (pe_op op_mod (pe_callTy call_int1 (by rfl) g.int (by decide +kernel) (pa_cons (pe_op op_add (pe_op op_add (pe_op op_mul (pv 2) pe_int) (pe_op op_mul (pe_op op_fdiv (pv 2) pe_int) (pv 1))) pe_int) pa_nil)) pe_int) pe_int))))), ?_⟩
    refine ⟨_, rfl, rfl, _, rfl, ite2 (fun _ => k _) (fun _ => ?_)⟩
    refine ⟨_, rfl, _, _, rfl, rfl, .inr ⟨by decide, by decide⟩, _, rfl, _, _, rfl, rfl, .inr ⟨by decide, by decide⟩, _, _, rfl, rfl, Or.inl ⟨_, rfl, _, _, rfl, rfl, (by show (0 : Int) < 2147483647; decide), ?_⟩⟩
    generalize hf : (c * 48271 + n * 69621) % 2147483647 = a
    have h0 : 0 ≤ a := by rw [← hf]; exact Int.emod_nonneg _ (by decide)
    have h1 : a < 2147483647 := by rw [← hf]; exact Int.emod_lt_of_pos _ (by decide)
    refine ⟨_, rfl, _, _, rfl, rfl, .inr ⟨by decide, by decide⟩, _, rfl, _, _, rfl, rfl, ⟨by decide, by decide⟩, _, rfl, _, _, rfl, rfl, .inl ⟨by omega, by omega⟩, _, _, rfl, rfl, _, _, rfl, rfl, Or.inl ⟨_, rfl, _, _, rfl, rfl, (by show (0 : Int) < 2147483399; decide), _, _, rfl, rfl, ⟨by decide, by decide⟩, k _⟩⟩
theorem ok_source {f : Addr} {fd : FuncData} (F : Fun K "_law_source" "_law_source" s_l_source f fd) (g : Bi mg) : FnOk P w K mg base CX0 1 f fd ["_law_script"] (spSource K) := by
  refine F.ok sc_l_source (fun vs H Q E h => ?_) (fun cdv A outer s H vs Q E hr h => ?_)
  · obtain ⟨_, _, rfl, _⟩ := h
    rfl
  · obtain ⟨a, ns, rfl, hS, k⟩ := h
    refine ⟨_, (pss_one (ps_ret (pe_lst (pa_cons (pe_callTy call_list_of (by rfl) g.list (by decide +kernel) (pa_cons (pe_slice sl_list (pv 0) po_none (po_some pe_int)) pa_nil)) (pa_cons pe_int (pa_cons pe_int (pa_cons pe_int pa_nil))))))), ?_⟩
    refine ⟨_, rfl, _, rfl, a, _, rfl, hS, fun q hq => ⟨q, _, rfl, .inl (SqL.of upd_same), fun c hc => ⟨by show 4 ≤ sizeLine; decide, fun p hp => ?_⟩⟩⟩
    have s1 : Same H (upd H q (.lst (cutV (ns.map V.int) none (some 63)))) := Same.new hq
    have s2 := s1.trans (Same.new (o := .lst (cutV (ns.map V.int) none (some 63))) hc)
    have s3 := s2.trans (Same.new (o := .lst [.ref c, .int 0, .int 0, .int 0]) hp)
    have ncp : c ≠ p := ne_of_none (H := upd _ c _) upd_same hp
    obtain ⟨ms, em⟩ : ∃ ms : List Int, cutV (ns.map V.int) none (some 63) = ms.map V.int := by
      unfold cutV
      rw [← List.map_drop, ← List.map_take]
      exact ⟨_, rfl⟩
    refine k p c _ (s2.free hp) (s1.free hc) s3 ⟨ms, 0, 0, 0, upd_same, ?_, ncp, by decide, by decide⟩
    rw [upd_ne ncp, upd_same, em]
theorem ok_draw {f fM : Addr} {fd fdM : FuncData} (F : Fun K "_law_draw" "_law_draw" s_l_draw f fd) (g : Bi mg) (FM : Fun K "_law_mixed" "_law_mixed" s_l_mixed fM fdM) (mM : mg "_law_mixed" = some (.ref fM)) (bM : Binds K fdM ["_law_cell", "_law_count"] []) :
    FnOk P w K mg base CX0 2 f fd ["_law_source_here", "_law_size"] spDraw := by
  have GM : FnOk P w K mg base CX0 1 fM fdM ["_law_cell", "_law_count"] spMixed := ok_mixed FM g
  refine F.ok sc_l_draw (fun vs H Q E h => ?_) (fun cdv A outer s H vs Q E hr h => ?_)
  · obtain ⟨_, _, _, rfl, _⟩ := h
    rfl
  · obtain ⟨p, c, n, rfl, ⟨ns, i, l, m, hp, hc, ncp, hi, hl⟩, n0, n1, k⟩ := h
    have hrM : Room 1 _ := hr.mono (by decide)
    refine ⟨_, (pss_cons (ps_asg (pe_op op_add (pe_ix ix_list (pv 0) pe_int (fun _ _ => rfl)) pe_int) (pg_sub (pv 0) pe_int set_list))
      (C8.pss_cut (ps_if (PW.pt (pw_and (pt_cmpR op_eq (pe_ix ix_list (pv 0) pe_int (fun _ _ => rfl)) pe_int (nomark _)) (pw_and1 (pt_cmpR op_gt (pe_callB call_len (by rfl) g.len PySem.boot_len (pa_cons (pe_ix ix_list (pv 0) pe_int (fun _ _ => rfl)) pa_nil)) pe_int (nomark _))))) (pss_cons (ps_set (i := 2) sc_l_draw.nd rfl (Or.inl rfl) (pe_ix ix_list (pv 0) pe_int (fun _ _ => rfl)))
      (pss_cons (ps_set (i := 3) sc_l_draw.nd rfl (Or.inl rfl) (pe_ix ix_list (pe_ix ix_list (pv 0) pe_int (fun _ _ => rfl)) (pe_op op_mod (pe_callTy call_int1 (by rfl) g.int (by decide +kernel) (pa_cons (pv 2) pa_nil)) (pe_callB call_len (by rfl) g.len PySem.boot_len (pa_cons (pe_ix ix_list (pv 0) pe_int (fun _ _ => rfl)) pa_nil))) (fun _ _ => rfl)))
      (pss_cons (ps_asg (pe_op op_add (pv 2) pe_int) (pg_sub (pv 0) pe_int set_list))
      (pss_one (ps_if (PW.pt (pw_and (pt_cmpR op_lt (pv 2) (pe_callB call_len (by rfl) g.len PySem.boot_len (pa_cons (pe_ix ix_list (pv 0) pe_int (fun _ _ => rfl)) pa_nil)) (nomark _)) (pw_and1 (pt_cmpR op_ge (pe_callB call_abs (by rfl) g.abs (by decide +kernel) (pa_cons (pv 3) pa_nil)) (pe_op op_pow pe_int pe_int) (nomark _))))) (pss_one (ps_asg (pe_callB call_abs (by rfl) g.abs (by decide +kernel) (pa_cons (pv 3) pa_nil)) (pg_sub (pv 0) pe_int set_list))) (pss_one (ps_ret (pe_op op_mod (pe_callTy call_int1 (by rfl) g.int (by decide +kernel) (pa_cons (pe_call GM hrM rfl mM FM.kp bM .nil pass0 (pa_cons (pv 3) (pa_cons (pe_ix ix_list (pv 0) pe_int (fun _ _ => rfl)) pa_nil))) pa_nil)) (pv 1))))))))) pss_nil)
      (pss_cons (ps_set (i := 4) sc_l_draw.nd rfl (Or.inl rfl) (pe_op op_mod (pe_callTy call_int1 (by rfl) g.int (by decide +kernel) (pa_cons (pe_ix ix_list (pv 0) pe_int (fun _ _ => rfl)) pa_nil)) (pv 1)))
      (pss_cons (ps_asg (pe_op op_fdivW (pe_ix ix_list (pv 0) pe_int (fun _ _ => rfl)) (pv 1)) (pg_sub (pv 0) pe_int set_list))
      (pss_one (ps_ret (pv 4))))))), ?_⟩
    have c1 : ∀ o, (upd H p o) c = some (.lst (ns.map V.int)) := fun o => by rw [upd_ne ncp]; exact hc
    have q1 : ∀ xs, SqL K (upd H p (.lst xs)) p xs := fun xs => SqL.of upd_same
    have q2 : ∀ o, SqL K (upd H p o) c (ns.map V.int) := fun o => SqL.of (c1 o)
    refine ⟨_, rfl, p, _, _, _, rfl, rfl, SqL.of hp, atI3, _, _, rfl, rfl, _, rfl, p, _, _, 3, rfl, rfl, hp, rfl, ?_⟩
    have e1 : ([V.ref c, .int i, .int l, .int m].set 3 (.int (m + 1))) = [V.ref c, .int i, .int l, .int (m + 1)] := rfl
    rw [e1]
    refine ⟨fun σ' H2 => ∃ x2 x3 x4 j l2, σ' = [some (.ref p), some (.int n), x2, x3, x4] ∧ H2 p = some (.lst [.ref c, .int j, .int l2, .int (m + 1)]) ∧ H2 c = some (.lst (ns.map V.int)) ∧ 0 ≤ j ∧ 0 ≤ l2 ∧ Kp p H H2, ?_, ?_⟩
    · refine ⟨_, rfl, p, _, _, _, rfl, rfl, q1 _, atI2, rfl, _, rfl, ?_⟩
      refine ite2 (fun z => ?_) (fun z => ?_)
      · refine ⟨_, rfl, p, _, _, _, rfl, rfl, q1 _, atI0, _, _, rfl, .inl ⟨_, q2 _, rfl⟩, _, _, rfl, rfl, _, rfl, ?_⟩
        rw [List.length_map]
        refine ite2 (fun z2 => ?_) (fun z2 => ?_)
        · have hlen : 0 < ns.length := by simpa using z2
          refine ⟨_, rfl, p, _, _, _, rfl, rfl, q1 _, atI1, ?_⟩
          have hx0 : 0 ≤ i % (ns.length : Int) := Int.emod_nonneg _ (by omega)
          have hx1 : i % (ns.length : Int) < (ns.length : Int) := Int.emod_lt_of_pos _ (by omega)
          obtain ⟨j, ej⟩ : ∃ j : Nat, i % (ns.length : Int) = (j : Int) := ⟨(i % (ns.length : Int)).toNat, by omega⟩
          have hj : j < ns.length := by omega
          have hat : atI (ns.map V.int) (i % ((ns.map V.int).length : Int)) = some (.int ns[j]) := by
            rw [List.length_map, ej]
            exact atI_nat (by rw [List.getElem?_map, List.getElem?_eq_getElem hj]; rfl)
          refine ⟨_, rfl, p, _, _, _, rfl, rfl, q1 _, atI0, _, rfl, Or.inl ⟨_, rfl, _, rfl, p, _, _, _, rfl, rfl, q1 _, atI0, _, _, rfl, .inl ⟨_, q2 _, rfl⟩, _, _, rfl, rfl, (by rw [List.length_map]; omega), c, _, _, _, rfl, rfl, q2 _, hat, ?_⟩⟩
          refine ⟨_, rfl, _, _, rfl, rfl, _, rfl, p, _, _, 1, rfl, rfl, upd_same, rfl, ?_⟩
          have e2 : ([V.ref c, .int i, .int l, .int (m + 1)].set 1 (.int (i + 1))) = [V.ref c, .int (i + 1), .int l, .int (m + 1)] := rfl
          rw [e2]
          have c2 : ∀ o o', (upd (upd H p o) p o') c = some (.lst (ns.map V.int)) := fun o o' => by rw [upd_ne ncp]; exact c1 o
          have kp2 : ∀ o o', Kp p H (upd (upd H p o) p o') := fun o o' => Kp.upd.trans Kp.upd
          have other : ∀ v : Int, Q (.int (v % n)) (upd (upd H p (.lst [.ref c, .int i, .int l, .int (m + 1)])) p (.lst [.ref c, .int (i + 1), .int l, .int (m + 1)])) := fun v =>
            k _ _ (Int.emod_nonneg _ (by omega)) (Int.emod_lt_of_pos _ n0) ⟨ns, i + 1, l, m + 1, upd_same, c2 _ _, ncp, by omega, hl⟩ (kp2 _ _)
          refine ⟨_, rfl, _, rfl, p, _, _, _, rfl, rfl, SqL.of upd_same, atI0, _, _, rfl, .inl ⟨_, SqL.of (c2 _ _), rfl⟩, _, _, rfl, rfl, _, rfl, ?_⟩
          refine ite2 (fun z3 => ?_) (fun z3 => ?_)
          · refine ⟨_, rfl, _, rfl, _, _, rfl, rfl, ⟨by decide, by decide, by decide⟩, _, _, rfl, rfl, _, rfl, ?_⟩
            refine ite2 (fun z4 => ?_) (fun z4 => ?_)
            · refine ⟨_, rfl, _, rfl, _, rfl, p, _, _, 2, rfl, rfl, upd_same, rfl, ?_⟩
              refine ⟨_, _, _, i + 1, _, rfl, upd_same, by rw [upd_ne ncp]; exact c2 _ _, by omega, ?_, (kp2 _ _).trans Kp.upd⟩
              split <;> omega
            · refine ⟨_, rfl, _, rfl, p, _, _, _, rfl, rfl, SqL.of upd_same, atI3, _, _, rfl, fun v => Or.inl ⟨_, rfl, _, rfl, _, _, rfl, rfl, n0, other v⟩⟩
          · refine ⟨_, rfl, _, rfl, p, _, _, _, rfl, rfl, SqL.of upd_same, atI3, _, _, rfl, fun v => Or.inl ⟨_, rfl, _, rfl, _, _, rfl, rfl, n0, other v⟩⟩
        · exact ⟨_, _, _, i, l, rfl, upd_same, c1 _, hi, hl, Kp.upd⟩
      · exact ⟨_, _, _, i, l, rfl, upd_same, c1 _, hi, hl, Kp.upd⟩
    · rintro σ' H2 ⟨x2, x3, x4, j, l2, rfl, hp2, hc2, j0, l0, kp⟩
      refine ⟨_, rfl, p, _, _, _, rfl, rfl, SqL.of hp2, atI2, Or.inl ⟨_, rfl, _, rfl, _, _, rfl, rfl, n0, ?_⟩⟩
      refine ⟨_, rfl, p, _, _, _, rfl, rfl, SqL.of hp2, atI2, _, rfl, _, _, rfl, rfl, wide_div (b := 120) n0 (by omega) (by decide) (by decide), _, rfl, p, _, _, 2, rfl, rfl, hp2, rfl, ?_⟩
      refine ⟨_, rfl, ?_⟩
      exact k _ _ (Int.emod_nonneg _ (by omega)) (Int.emod_lt_of_pos _ n0) ⟨ns, j, l2 / n, m + 1, upd_same, by rw [upd_ne ncp]; exact hc2, ncp, j0, Int.ediv_nonneg l0 (by omega)⟩ (kp.trans Kp.upd)
end
end Cs

set_option Elab.async false
set_option linter.all false
set_option maxRecDepth 100000
set_option maxHeartbeats 4000000
/-! The law's words, numbers and pairs. -/
namespace Cs
open PySem L2
def LET : Str := "abcdefghijklmnopqrstuvwxyz"
/-- one to eight letters -/
def Word (z : Str) : Prop := 1 ≤ z.length ∧ z.length ≤ 8 ∧ ∀ c ∈ z.cps.toList, c ∈ LET.cps.toList
/-- at most thirty digits -/
def Small (n : Int) : Prop := -(10 ^ 30) < n ∧ n < 10 ^ 30
theorem len_add (x y : Str) : (x ++ y).length = x.length + y.length := by
  show (x.cps ++ y.cps).size = x.cps.size + y.cps.size
  exact Array.size_append
theorem cps_add (x y : Str) : (x ++ y).cps.toList = x.cps.toList ++ y.cps.toList := by
  show (x.cps ++ y.cps).toList = _
  exact Array.toList_append
def wordB (z : Str) : Bool := decide (1 ≤ z.length) && decide (z.length ≤ 8) && z.cps.toList.all fun c => decide (c ∈ LET.cps.toList)
theorem word_of {z : Str} (h : wordB z = true) : Word z := by
  unfold wordB at h
  simp only [Bool.and_eq_true, decide_eq_true_eq, List.all_eq_true] at h
  exact ⟨h.1.1, h.1.2, h.2⟩
theorem ats_of {α : Type} {xs : List α} {z : Int} {j : Nat} {v : α} (e : z = (j : Int)) (h : xs[j]? = some v) : atI xs z = some v := by
  rw [e]
  exact atI_nat h
def spWord : Sp := fun vs H Q _ => ∃ p c : Addr, vs = [.ref p] ∧ Src H p c ∧ ∀ (z : Str) (H' : Hp), Word z → Src H' p c → Kp p H H' → Q (.str z) H'
def spNumber : Sp := fun vs H Q _ => ∃ p c : Addr, vs = [.ref p] ∧ Src H p c ∧ ∀ (n : Int) (H' : Hp), Small n → Src H' p c → Kp p H H' → Q (.int n) H'
/-- the items are tuples of a text and a number -/
def PrL (H : Hp) : List V → List (Str × Int) → Prop := Paired fun x q => ∃ t, x = V.ref t ∧ H t = some (.tup [.str q.1, .int q.2])
def GoodPs (ps : List (Str × Int)) : Prop := ∀ q ∈ ps, Word q.1 ∧ Small q.2
def spPairs : Sp := fun vs H Q _ => ∃ (p c : Addr) (m : Int), vs = [.ref p, .int m] ∧ Src H p c ∧ 0 ≤ m ∧ m ≤ 1000 ∧
  ∀ (q : Addr) (H' : Hp) (xs : List V) (ps : List (Str × Int)), H q = none → H' q = some (.lst xs) → PrL H' xs ps → GoodPs ps → (ps.length : Int) ≤ m → Src H' p c → Kp p H H' → Q (.ref q) H'
theorem PrL.mono {H H' : Hp} {xs : List V} {ps : List (Str × Int)} (h : PrL H xs ps) (k : ∀ t a b, H t = some (.tup [.str a, .int b]) → H' t = some (.tup [.str a, .int b])) : PrL H' xs ps :=
  Paired.mapP h fun x q ⟨t, e, r⟩ => ⟨t, e, k t _ _ r⟩
theorem PrL.length {H : Hp} : ∀ {xs : List V} {ps : List (Str × Int)}, PrL H xs ps → xs.length = ps.length
  | _, _, .nil => rfl
  | _, _, .cons _ t => congrArg (· + 1) (PrL.length t)
theorem PrL.at {H : Hp} : ∀ {xs : List V} {ps : List (Str × Int)}, PrL H xs ps → ∀ {i : Nat} {q : Str × Int}, ps[i]? = some q → ∃ t, xs[i]? = some (V.ref t) ∧ H t = some (.tup [.str q.1, .int q.2])
  | _, _, .nil, i, q, h => by simp at h
  | _, _, .cons (a := a) r t, 0, q, h => by
    obtain ⟨u, e, hu⟩ := r
    obtain rfl := Option.some.inj h
    exact ⟨u, by rw [e]; rfl, hu⟩
  | _, _, .cons r t, i + 1, q, h => PrL.at t h
theorem PrL.snoc {H : Hp} : ∀ {xs : List V} {ps : List (Str × Int)} {t : Addr} {a : Str} {b : Int}, PrL H xs ps → H t = some (.tup [.str a, .int b]) → PrL H (xs ++ [.ref t]) (ps ++ [(a, b)])
  | _, _, _, _, _, .nil, h => .cons ⟨_, rfl, h⟩ .nil
  | _, _, _, _, _, .cons r t, h => .cons r (PrL.snoc t h)
section
variable {P : Program} {w : World} {K : PySem.W.Frag} {mg : Str → Option Value} {base : Heap}
/-- a def of the module as its callers have it: its promise, its name, that it stays, how its arguments bind -/
structure Def (P : Program) (w : World) (K : PySem.W.Frag) (mg : Str → Option Value) (base : Heap) (CX : CXT) (k : Nat) (x : Str) (ps : List Str) (sp : Sp) (f : Addr) (fd : FuncData) : Prop where
  ok : FnOk P w K mg base CX k f fd ps sp
  m : mg x = some (.ref f)
  kp : PySem.W.keepIn K (.ref f) = true
  b : Binds K fd ps []
theorem ok_word {f fD : Addr} {fd fdD : FuncData} (F : Fun K "_law_word" "_law_word" s_l_word f fd) (g : Bi mg) (FD : Def P w K mg base CX0 2 "_law_draw" ["_law_source_here", "_law_size"] spDraw fD fdD) : FnOk P w K mg base CX0 3 f fd ["_law_source_here"] spWord := by
  obtain ⟨GD, mD, _, bD⟩ := id FD
  refine F.ok sc_l_word (fun vs H Q E h => ?_) (fun cdv A outer s H vs Q E hr h => ?_)
  · obtain ⟨_, _, rfl, _⟩ := h
    rfl
  · obtain ⟨p, c, rfl, hS, k⟩ := h
    have hrD : Room 2 _ := hr.mono (by decide)
    refine ⟨_, (pss_cons (ps_if (pt_cmpR op_eq (pe_call GD hrD rfl mD FD.kp bD .nil pass0 (pa_cons (pv 0) (pa_cons pe_int pa_nil))) pe_int (nomark _)) (pss_cons (ps_set (i := 1) sc_l_word.nd rfl (Or.inl rfl) (pe_lst (pa_cons pe_str (pa_cons pe_str (pa_cons pe_str (pa_cons pe_str (pa_cons pe_str (pa_cons pe_str (pa_cons pe_str (pa_cons pe_str pa_nil))))))))))
      (pss_one (ps_ret (pe_ix ix_list (pv 1) (pe_call GD hrD rfl mD FD.kp bD .nil pass0 (pa_cons (pv 0) (pa_cons pe_int pa_nil))) (fun _ _ => rfl))))) pss_nil)
      (pss_cons (ps_set (i := 2) sc_l_word.nd rfl (Or.inl rfl) pe_str)
      (pss_cons (ps_for PassesOwn.never rfl (pi_range1 rfl g.range (pa_cons (pe_op op_add pe_int (pe_call GD hrD rfl mD FD.kp bD .nil pass0 (pa_cons (pv 0) (pa_cons pe_int pa_nil)))) pa_nil)) (pg_name (i := 3) sc_l_word.nd rfl (Or.inl rfl)) (pss_one (ps_set (i := 2) sc_l_word.nd rfl (Or.inl rfl) (pe_op op_add_str (pv 2) (pe_ix ix_str pe_str (pe_call GD hrD rfl mD FD.kp bD .nil pass0 (pa_cons (pv 0) (pa_cons pe_int pa_nil))) (fun _ _ => rfl))))))
      (pss_one (ps_ret (pv 2)))))), ?_⟩
    refine ⟨_, rfl, p, c, 8, rfl, hS, by decide, by decide, fun v H1 v0 v1 S1 k1 => ⟨rfl, _, rfl, ite2 (fun z => ?_) (fun z => ?_)⟩⟩
    · refine ⟨by show 8 ≤ sizeLine; decide, fun l hl => ?_⟩
      have s2 : Same H1 (upd H1 l (.lst [.str "self", .str "hold", .str "gone", .str "main", .str "zzzzzzzz", .str "aaaaaaab", .str "if", .str "spare"])) := Same.new hl
      have nlp : l ≠ p := S1.new_p hl
      refine ⟨_, rfl, _, rfl, p, c, 8, rfl, S1.same s2, by decide, by decide, fun v2 H2 a0 a1 S2 k2 => ?_⟩
      have hl2 := k2 l _ upd_same nlp
      have key : ∀ j : Nat, j < 8 → ∃ z : Str, ([.str "self", .str "hold", .str "gone", .str "main", .str "zzzzzzzz", .str "aaaaaaab", .str "if", .str "spare"] : List V)[j]? = some (.str z) ∧ Word z := by
        intro j hj
        match j, hj with
        | 0, _ => exact ⟨_, rfl, word_of (by decide +kernel)⟩
        | 1, _ => exact ⟨_, rfl, word_of (by decide +kernel)⟩
        | 2, _ => exact ⟨_, rfl, word_of (by decide +kernel)⟩
        | 3, _ => exact ⟨_, rfl, word_of (by decide +kernel)⟩
        | 4, _ => exact ⟨_, rfl, word_of (by decide +kernel)⟩
        | 5, _ => exact ⟨_, rfl, word_of (by decide +kernel)⟩
        | 6, _ => exact ⟨_, rfl, word_of (by decide +kernel)⟩
        | 7, _ => exact ⟨_, rfl, word_of (by decide +kernel)⟩
      obtain ⟨z, ez, hz⟩ := key v2.toNat (by omega)
      refine ⟨l, _, v2, _, rfl, rfl, SqL.of hl2, at_of (z := v2) (j := v2.toNat) (by omega) ez, ?_⟩
      exact k z H2 hz S2 ((k1.trans (Kp.of s2)).trans k2)
    · refine ⟨_, rfl, p, c, 8, rfl, S1, by decide, by decide, fun v2 H2 a0 a1 S2 k2 => ⟨_, _, rfl, rfl, _, rfl, by omega, by omega, ?_⟩⟩
      refine for_range (lo := 0) (n := (1 + v2).toNat) (fun i σ' H' => ∃ (z : Str) (x1 x3 : Option V), σ' = [some (.ref p), x1, some (.str z), x3] ∧ z.length = i ∧ (∀ y ∈ z.cps.toList, y ∈ LET.cps.toList) ∧ Src H' p c ∧ Kp p H H')
        ⟨"", _, _, rfl, rfl, (by intro y hc; cases hc), S2, k1.trans k2⟩ ?_ ?_
      · rintro i σ' H' hi ⟨z, x1, x3, rfl, hz, hc, S', kp'⟩
        refine ⟨_, rfl, _, rfl, p, c, 26, rfl, S', by decide, by decide, fun v3 H3 b0 b1 S3 k3 => ?_⟩
        have hx : v3.toNat < LET.cps.toList.length := by
          have : LET.cps.toList.length = 26 := by decide +kernel
          omega
        refine ⟨LET, v3, LET.cps.toList[v3.toNat], rfl, rfl, by decide +kernel, ats_of (z := v3) (j := v3.toNat) (by omega) (List.getElem?_eq_getElem hx), z, _, rfl, rfl, ?_, ?_⟩
        · have : (⟨#[LET.cps.toList[v3.toNat]]⟩ : Str).length = 1 := rfl
          rw [this, hz]
          exact Nat.le_trans (show i + 1 ≤ 1000 by omega) (by decide)
        · refine ⟨_, _, _, rfl, ?_, fun y hc' => ?_, S3, kp'.trans k3⟩
          · rw [len_add, hz]
            rfl
          · rw [cps_add] at hc'
            rcases List.mem_append.mp hc' with q | q
            · exact hc y q
            · have e : y = LET.cps.toList[v3.toNat] := by simpa using q
              rw [e]
              exact List.getElem_mem hx
      · rintro σ' H' ⟨z, x1, x3, rfl, hz, hc, S', kp'⟩
        exact ⟨_, rfl, k z H' ⟨by omega, by omega, hc⟩ S' kp'⟩
end
end Cs

set_option Elab.async false
set_option linter.all false
set_option maxRecDepth 100000
set_option maxHeartbeats 4000000
namespace Cs
open PySem L2
section
variable {P : Program} {w : World} {K : PySem.W.Frag} {mg : Str → Option Value} {base : Heap}
end
end Cs

set_option Elab.async false
set_option linter.all false
set_option maxRecDepth 100000
set_option maxHeartbeats 4000000
/-! The program's words: is_integer, is_word, is_small, is_pair, distinct. -/
namespace Cs
open PySem L2
/-- a value of a built-in type that is no int -/
def NotInt (K : PySem.W.Frag) (H : Hp) (x : V) : Prop := ∃ ty : String, TyX K H x (.type ty) ∧ (ty = "bool" ∨ kitB ty "int" = some false)
def spIsInteger (K : PySem.W.Frag) : Sp := fun vs H Q _ => (∃ n : Int, vs = [.int n] ∧ Q (.bl true) H) ∨ (∃ x, vs = [x] ∧ NotInt K H x ∧ Q (.bl false) H)
def spIsSmall (K : PySem.W.Frag) : Sp := fun vs H Q _ => (∃ n : Int, vs = [.int n] ∧ Q (.bl (decide (-(10 ^ 30) < n) && decide (n < 10 ^ 30))) H) ∨ (∃ x, vs = [x] ∧ NotInt K H x ∧ Q (.bl false) H)
def spIsWord (K : PySem.W.Frag) : Sp := fun vs H Q _ => (∃ z : Str, vs = [.str z] ∧ z.length ≤ 100000 ∧ ∀ H', Same H H' → Q (.bl (wordB z)) H') ∨ (∃ x ty, vs = [x] ∧ TyX K H x (.type ty) ∧ kitB ty "str" = some false ∧ Q (.bl false) H)
/-- of a good pair -/
def spIsPair (K : PySem.W.Frag) : Sp := fun vs H Q _ => ∃ (t : Addr) (z : Str) (n : Int), vs = [.ref t] ∧ H t = some (.tup [.str z, .int n]) ∧ Word z ∧ Small n ∧ ∀ H', Same H H' → Q (.bl true) H'
def spDistinct (K : PySem.W.Frag) : Sp := fun vs H Q _ => ∃ (a : Addr) (zs : List Str), vs = [.ref a] ∧ SqL K H a (zs.map V.str) ∧ zs.length ≤ 1000 ∧
  ∀ (p : Addr) (H' : Hp) (ws : List Str), H p = none → Same H H' → H' p = some (.lst (ws.map V.str)) → Asc ws → (∀ z, z ∈ ws ↔ z ∈ zs) → ws.length ≤ zs.length → Q (.ref p) H'
theorem wordB_of {z : Str} (h : Word z) : wordB z = true := by
  unfold wordB
  simp only [Bool.and_eq_true, decide_eq_true_eq, List.all_eq_true]
  exact ⟨⟨h.1, h.2.1⟩, h.2.2⟩
theorem kit_int {K : PySem.W.Frag} {H : Hp} {x : V} (h : NotInt K H x) : ∃ ty, TyX K H x (.type ty) ∧ (ty = "bool" ∨ kitB ty "int" = some false) := h
theorem yes_it {σ : L2.St} {H : Hp} {A B : Hp → Prop} (h : A H) : tYes σ H (fun b H3 => if b = true then A H3 else B H3) := iteT (A := A H) (B := B H) h
/-- a set comprehension of texts over a walk -/
theorem scT_it {J : It} {n : Nat} {G : Hp → Prop} {Y : Nat → Hp → V → Hp → Prop} (wk : Walk J n G Y) {w : World} {g : TG} {tt : TT} {te : TE} {vs : List Nat} {σ : L2.St} {H1 : Hp} {D : Addr} {Qd : Hp → Prop} (Pv : Nat → Hp → Prop)
    (h0 : Pv 0 (upd H1 D (TSetO w D []))) (hG : ∀ i H, i ≤ n → Pv i H → G H)
    (hs : ∀ i x H H', i < n → Pv i H → Y i H x H' → g x (wipe σ vs) H' fun σ2 H2 => wipe σ2 vs = wipe σ vs ∧ tt σ2 H2 fun b H3 =>
      if b = true then te σ2 H3 fun y H4 => ∃ (z : Str) (zs : List Str), y = .str z ∧ H4 D = some (TSetO w D zs) ∧ zs.length + 1 < scanBound ∧ Pv (i + 1) (upd H4 D (TSetO w D (addT zs z))) else Pv (i + 1) H3)
    (hd : ∀ H, Pv n H → Qd H) :
    ∃ W : Nat → Nat → Hp → Prop, (∃ m, W 0 m (upd H1 D (TSetO w D []))) ∧ ∀ i m H, W i m H →
      (J.stop i H ∧ Qd H) ∨ (J.go i H ∧ ∃ Nx : Hp → Prop, (∀ H', Nx H' → ∃ m', m' < m ∧ W (i + 1) m' H') ∧ ∀ x H', J.yld i H x H' → g x (wipe σ vs) H' fun σ2 H2 => wipe σ2 vs = wipe σ vs ∧ tt σ2 H2 fun b H3 =>
        if b = true then te σ2 H3 fun y H4 => ∃ (z : Str) (zs : List Str), y = .str z ∧ H4 D = some (TSetO w D zs) ∧ zs.length + 1 < scanBound ∧ Nx (upd H4 D (TSetO w D (addT zs z))) else Nx H3) := by
  refine ⟨fun i m H => m = n - i ∧ i ≤ n ∧ Pv i H, ⟨n, by simp, Nat.zero_le _, h0⟩, ?_⟩
  rintro i m H ⟨rfl, hi, p⟩
  by_cases lt : i < n
  · exact .inr ⟨wk.goes i H lt (hG i H hi p), Pv (i + 1), fun H' r => ⟨n - (i + 1), by omega, rfl, lt, r⟩, fun x H' y => hs i x H H' lt p (wk.yields i H x H' lt (hG i H hi p) y)⟩
  · obtain rfl : i = n := by omega
    exact .inl ⟨wk.stops H (hG i H hi p), hd H p⟩
section
variable {P : Program} {w : World} {K : PySem.W.Frag} {mg : Str → Option Value} {base : Heap}
theorem ok_is_word {f : Addr} {fd : FuncData} {tk : Tok} (F : Fun K "is_word" "is_word" s_is_word f fd) (g : Bi mg) (mLET : mg "LETTERS" = some (.str LET tk)) : FnOk P w K mg base CX0 1 f fd ["thing"] (spIsWord K) := by
  refine F.ok sc_is_word (fun vs H Q E h => ?_) (fun cdv A outer s H vs Q E hr h => ?_)
  · rcases h with ⟨_, rfl, _⟩ | ⟨_, _, rfl, _⟩ <;> rfl
  · refine ⟨_, (pss_cons (ps_if (PW.pt (pw_or (pt_not (pt_val (pe_callB call_isi (by rfl) g.isinstance (by decide +kernel) (pa_cons (pv 0) (pa_cons (pe_bltn (v := .ty "str") (by rfl) g.str (by decide +kernel) rfl) pa_nil))))) (pw_or1 (pt_not (pt_chain op_le op_le pe_int (pe_callB call_len (by rfl) g.len PySem.boot_len (pa_cons (pv 0) pa_nil)) pe_int))))) (pss_one (ps_ret pe_bl)) pss_nil)
      (pss_one (ps_ret (pe_callB (cr_all rfl) (by rfl) g.all (by decide +kernel) (pa_cons (pe_lc (own := [("sign", 1)]) (g := gName 1)  (by rfl) sc_is_word.nd (pi_str (pv 0)) (blkOk_by (own := [("sign", 1)]) (N := ["thing", "sign"]) (sc := defScope s_is_word) (by decide +kernel)) (fun _ _ _ _ _ => (pg_name (i := 1) sc_is_word.nd rfl (Or.inl rfl))) (fun _ _ _ _ _ => pts_nil) (fun _ _ _ _ _ => (pe_cmpR op_in_sign (pv 1) (pe_glob (v := .str LET) rfl mLET ⟨_, rfl⟩) (by rfl)))) pa_nil))))), ?_⟩
    rcases h with ⟨z, rfl, hz, q⟩ | ⟨x, ty, rfl, ht, hc, q⟩
    · refine ⟨_, rfl, _, _, _, _, true, rfl, .ty "str", .base (.str z), kit_ty (by decide +kernel), _, rfl, iteF ?_⟩
      have hl : z.length ≤ sizeLine := Nat.le_trans hz (by decide)
      refine ⟨_, rfl, _, _, rfl, ⟨hl, rfl⟩, _, _, rfl, rfl, _, rfl, ?_⟩
      have go : 1 ≤ z.length → z.length ≤ 8 → Q (.bl (wordB z)) H := fun _ _ => q H (Same.refl H)
      by_cases c : (1 : Int) ≤ (z.length : Int)
      · rw [decide_eq_true c]
        refine iteT ⟨_, _, rfl, rfl, _, rfl, ?_⟩
        by_cases d : ((z.length : Nat) : Int) ≤ 8
        · rw [decide_eq_true d]
          refine iteF ?_
          refine ⟨_, rfl, z, rfl, fun D hD => ?_⟩
          refine lc_it walk_str (fun i H' => Same H H' ∧ H' D = some (.lst ((z.cps.toList.take i).map fun c => .bl (decide (c ∈ LET.cps.toList))))) ⟨Same.new hD, upd_same⟩ (fun _ _ _ _ => True.intro) ?_ ?_
          · rintro i x H' H2 hi ⟨s', hD'⟩ ⟨rfl, c, hc, rfl⟩
            have hc' : z.cps.toList[i]? = some c := by rw [Array.getElem?_toList]; exact hc
            refine ⟨rfl, yes_it ?_⟩
            refine ⟨_, rfl, c, LET, rfl, rfl, _, hD', ?_, ?_, ?_⟩
            · rw [List.length_map, List.length_take]
              exact Nat.lt_of_le_of_lt (Nat.min_le_left _ _) (Nat.lt_of_lt_of_le hi hl)
            · exact fun b o e => by rw [upd_ne (ne_of_none e hD)]; exact s' b o e
            · rw [upd_same, List.take_succ, hc', List.map_append]
              rfl
          · rintro H' ⟨s', hD'⟩
            refine ⟨D, (z.cps.toList.map fun c => decide (c ∈ LET.cps.toList)), rfl, SqL.of ?_, ?_⟩
            · rw [hD', List.map_map, List.take_of_length_le (by rw [Array.length_toList]; exact Nat.le_refl _)]
              rfl
            · have e : (z.cps.toList.map fun c => decide (c ∈ LET.cps.toList)).all id = wordB z := by
                unfold wordB
                rw [List.all_map, decide_eq_true (show 1 ≤ z.length by omega), decide_eq_true (show z.length ≤ 8 by omega)]
                rfl
              rw [e]
              exact q H' s'
        · rw [decide_eq_false d]
          refine iteT ?_
          have e : wordB z = false := by
            unfold wordB
            rw [decide_eq_false (show ¬ z.length ≤ 8 by omega)]
            simp
          have := q H (Same.refl H)
          rw [e] at this
          exact this
      · rw [decide_eq_false c]
        refine iteF ⟨_, rfl, iteT ?_⟩
        have e : wordB z = false := by
          unfold wordB
          rw [decide_eq_false (show ¬ 1 ≤ z.length by omega)]
          simp
        have := q H (Same.refl H)
        rw [e] at this
        exact this
    · exact ⟨_, rfl, _, _, _, _, false, rfl, .ty "str", ht, kit_ty hc, _, rfl, iteT q⟩
theorem ok_distinct {f : Addr} {fd : FuncData} (F : Fun K "distinct" "distinct" s_distinct f fd) (g : Bi mg) : FnOk P w K mg base CX0 1 f fd ["words"] (spDistinct K) := by
  refine F.ok sc_distinct (fun vs H Q E h => ?_) (fun cdv A outer s H vs Q E hr h => ?_)
  · obtain ⟨_, _, rfl, _⟩ := h
    rfl
  · obtain ⟨a, zs, rfl, ha, hl, q⟩ := h
    refine ⟨_, (pss_one (ps_ret (pe_callB (cr_sortT rfl) (by rfl) g.sorted (by decide +kernel) (pa_cons (pe_scT (own := [("word", 1)]) (g := gName 1)  (by rfl) sc_distinct.nd (pi_list (pv 0)) (blkOk_by (own := [("word", 1)]) (N := ["words", "word"]) (sc := defScope s_distinct) (by decide +kernel)) (fun _ _ _ _ _ => (pg_name (i := 1) sc_distinct.nd rfl (Or.inl rfl))) (fun _ _ _ _ _ => pts_nil) (fun _ _ _ _ _ => (pe_callTy SkE.call_str_str (by rfl) g.str (by decide +kernel) (pa_cons (pv 1) pa_nil)))) pa_nil)))), ?_⟩
    refine ⟨_, rfl, a, rfl, ⟨_, ha⟩, fun D hD => ?_⟩
    refine scT_it walk_list (fun i H' => Same H H' ∧ H' D = some (TSetO w D (once (zs.take i)))) ⟨Same.new hD, upd_same⟩ (fun i H' _ h => h.1.seq ha) ?_ ?_
    · rintro i x H' H2 hi ⟨s', hD'⟩ ⟨rfl, hx⟩
      rw [List.length_map] at hi
      have ex : x = V.str zs[i] := by
        rw [List.getElem?_map, List.getElem?_eq_getElem hi] at hx
        exact (Option.some.inj hx).symm
      subst ex
      refine ⟨rfl, yes_it ?_⟩
      refine ⟨_, rfl, _, rfl, zs[i], _, rfl, hD', ?_, ?_, ?_⟩
      · have h1 := once_len (zs.take i)
        rw [List.length_take] at h1
        exact Nat.lt_of_le_of_lt (show (once (zs.take i)).length + 1 ≤ 1001 by omega) (by decide)
      · exact fun b o e => by rw [upd_ne (ne_of_none e hD)]; exact s' b o e
      · rw [upd_same, List.take_succ, List.getElem?_eq_getElem hi]
        show some (TSetO w D (addT (once (zs.take i)) zs[i])) = some (TSetO w D (once (zs.take i ++ [zs[i]])))
        rw [once_snoc]
    · rintro H' ⟨s', hD'⟩
      rw [List.length_map, List.take_length] at hD'
      have h1 := once_len zs
      refine ⟨D, _, rfl, hD', by omega, fun ys p hp hs hn => ?_⟩
      refine q p _ ys (s'.free hn) (s'.trans (Same.new hn)) upd_same (asc_of_sorted hs (hp.nodup_iff.mpr (once_nodup zs))) (fun z => by rw [hp.mem_iff, once_mem]) (by rw [hp.length_eq]; exact h1)
end
end Cs

set_option Elab.async false
set_option linter.all false
set_option maxRecDepth 100000
set_option maxHeartbeats 4000000
/-! [e for x in xs] by the values of e. -/
namespace Cs
open PySem L2
theorem same_new {H : Hp} {a : Addr} {o : HO} (h : H a = none) : Same H (upd H a o) := fun b u e => by rw [upd_ne (ne_of_none e h)]; exact e
theorem yes_of {σ : L2.St} {H : Hp} {A B : Hp → Prop} (h : A H) : tYes σ H (fun b H3 => if b = true then A H3 else B H3) := iteT (A := A H) (B := B H) h
section
variable {K : PySem.W.Frag} {a : Addr} {xs ys : List V} {j : Nat} {te : TE} {vs : List Nat} {σ : L2.St} {H1 : Hp} {D : Addr} {Qd : Hp → Prop}
theorem lc_vals (hy : ys.length = xs.length) (ha : H1 a = some (.lst xs)) (hD : H1 D = none) (hl : xs.length ≤ 1000) (hw : ∀ x, wipe ((wipe σ vs).set j (some x)) vs = wipe σ vs)
    (he : ∀ (i : Nat) (x y : V), xs[i]? = some x → ys[i]? = some y → ∀ H', Same H1 H' → ∀ Qe : VK, (∀ H'', Same H' H'' → Qe y H'') → te ((wipe σ vs).set j (some x)) H' Qe)
    (k : ∀ H', Same H1 H' → H' D = some (.lst ys) → Qd H') :
    ∃ W : Nat → Nat → Hp → Prop, (∃ m, W 0 m (upd H1 D (.lst []))) ∧ ∀ i m H, W i m H →
      ((Itl K a).stop i H ∧ Qd H) ∨ ((Itl K a).go i H ∧ ∃ Nx : Hp → Prop, (∀ H', Nx H' → ∃ m', m' < m ∧ W (i + 1) m' H') ∧ ∀ x H', (Itl K a).yld i H x H' → gName j x (wipe σ vs) H' fun σ2 H2 => wipe σ2 vs = wipe σ vs ∧ tYes σ2 H2 fun b H3 =>
        if b = true then te σ2 H3 fun y H4 => ∃ acc, H4 D = some (.lst acc) ∧ acc.length < sizeLine ∧ Nx (upd H4 D (.lst (acc ++ [y]))) else Nx H3) := by
  refine lc_it (walk_list (xs := xs)) (fun i H' => Same H1 H' ∧ H' D = some (.lst (ys.take i))) ⟨same_new hD, upd_same⟩ (fun i H' _ h => SqL.of (h.1 _ _ ha)) ?_ ?_
  · rintro i x H' H2 hi ⟨s', hD'⟩ ⟨rfl, hx⟩
    have hi2 : i < ys.length := by omega
    refine ⟨hw _, yes_of ?_⟩
    refine he i x ys[i] hx (List.getElem?_eq_getElem hi2) H2 s' _ fun H3 s3 => ?_
    refine ⟨_, s3 _ _ hD', ?_, fun b o q => ?_, ?_⟩
    · rw [List.length_take]
      exact Nat.lt_of_le_of_lt (show min i ys.length ≤ 1000 by omega) (by decide)
    · rw [upd_ne (ne_of_none q hD)]
      exact s3 _ _ (s' _ _ q)
    · rw [upd_same, List.take_succ, List.getElem?_eq_getElem hi2]
      rfl
  · rintro H' ⟨s', hD'⟩
    rw [← hy, List.take_length] at hD'
    exact k H' s' hD'
/-- the same over a tuple -/
theorem lc_valsT (hy : ys.length = xs.length) (ha : H1 a = some (.tup xs)) (hD : H1 D = none) (hl : xs.length ≤ 1000) (hw : ∀ x, wipe ((wipe σ vs).set j (some x)) vs = wipe σ vs)
    (he : ∀ (i : Nat) (x y : V), xs[i]? = some x → ys[i]? = some y → ∀ H', Same H1 H' → ∀ Qe : VK, (∀ H'', Same H' H'' → Qe y H'') → te ((wipe σ vs).set j (some x)) H' Qe)
    (k : ∀ H', Same H1 H' → H' D = some (.lst ys) → Qd H') :
    ∃ W : Nat → Nat → Hp → Prop, (∃ m, W 0 m (upd H1 D (.lst []))) ∧ ∀ i m H, W i m H →
      ((Itt K a).stop i H ∧ Qd H) ∨ ((Itt K a).go i H ∧ ∃ Nx : Hp → Prop, (∀ H', Nx H' → ∃ m', m' < m ∧ W (i + 1) m' H') ∧ ∀ x H', (Itt K a).yld i H x H' → gName j x (wipe σ vs) H' fun σ2 H2 => wipe σ2 vs = wipe σ vs ∧ tYes σ2 H2 fun b H3 =>
        if b = true then te σ2 H3 fun y H4 => ∃ acc, H4 D = some (.lst acc) ∧ acc.length < sizeLine ∧ Nx (upd H4 D (.lst (acc ++ [y]))) else Nx H3) := by
  refine lc_it (walk_tup (xs := xs)) (fun i H' => Same H1 H' ∧ H' D = some (.lst (ys.take i))) ⟨same_new hD, upd_same⟩ (fun i H' _ h => SqT.of (h.1 _ _ ha)) ?_ ?_
  · rintro i x H' H2 hi ⟨s', hD'⟩ ⟨rfl, hx⟩
    have hi2 : i < ys.length := by omega
    refine ⟨hw _, yes_of ?_⟩
    refine he i x ys[i] hx (List.getElem?_eq_getElem hi2) H2 s' _ fun H3 s3 => ?_
    refine ⟨_, s3 _ _ hD', ?_, fun b o q => ?_, ?_⟩
    · rw [List.length_take]
      exact Nat.lt_of_le_of_lt (show min i ys.length ≤ 1000 by omega) (by decide)
    · rw [upd_ne (ne_of_none q hD)]
      exact s3 _ _ (s' _ _ q)
    · rw [upd_same, List.take_succ, List.getElem?_eq_getElem hi2]
      rfl
  · rintro H' ⟨s', hD'⟩
    rw [← hy, List.take_length] at hD'
    exact k H' s' hD'
end
end Cs

set_option Elab.async false
set_option linter.all false
set_option maxRecDepth 100000
set_option maxHeartbeats 4000000
/-! Defs of an own class that say super().m(..): judged where the def's own code runs. -/
namespace Cs
open PySem PySem.W PySem.Spec L2 NdefX
/-! ### judgements at the def's own code -/
section
variable (X : Cx) (b : List Stmt)
structure PEA (e : Expr) (t : TE) : Prop where
  run : ∀ (pins : List (Addr × Obj)) (s : Shared) (σ : L2.St) (H : Hp) (Q : VK), Inv X pins σ H s → t σ H Q → PySem.wpAt (model X.prog X.w) X.A (.func b X.env) (eval e X.env) (EP X pins σ Q) X.xe s
structure PSA (st : Stmt) (t : TS) : Prop where
  run : ∀ (pins : List (Addr × Obj)) (s : Shared) (σ : L2.St) (H : Hp) (D : Ends), Inv X pins σ H s → t D σ H → PySem.wpAt (model X.prog X.w) X.A (.func b X.env) (exec st X.env) (SP X pins D) X.xe s
structure PSsA (sts : List Stmt) (t : TS) : Prop where
  run : ∀ (pins : List (Addr × Obj)) (s : Shared) (σ : L2.St) (H : Hp) (D : Ends), Inv X pins σ H s → t D σ H → PySem.wpAt (model X.prog X.w) X.A (.func b X.env) (execs sts X.env) (SP X pins D) X.xe s
end
section
variable {X : Cx} {b : List Stmt} {e e2 : Expr} {te te2 : TE} {st : Stmt} {sts : List Stmt} {t u : TS} {pos : Pos}
theorem PEA.of (h : PE X e te) : PEA X b e te := ⟨fun pins s σ H Q I q => wpAt_of_wpAny (h.run pins s σ H Q I q)⟩
theorem PSA.of (h : PS X st t) : PSA X b st t := ⟨fun pins s σ H D I q => wpAt_of_wpAny (h.run pins s σ H D I q)⟩
theorem PSsA.of (h : PSs X sts t) : PSsA X b sts t := ⟨fun pins s σ H D I q => wpAt_of_wpAny (h.run pins s σ H D I q)⟩
theorem pssa_cons (h1 : PSA X b st t) (h2 : PSsA X b sts u) : PSsA X b (st :: sts) (tSeq t u) := by
  refine ⟨fun pins s σ H D I h => ks_wpAt_execs_cons (ks_wpAt_mono (h1.run pins s σ H { D with nx := u D } I h) (fun f s1 q => ?_) fun _ _ z => z)⟩
  cases f with
  | next =>
    obtain ⟨σ', H', I', q⟩ := q
    exact h2.run pins s1 σ' H' D I' q
  | ret v => exact q
  | brk => exact q
  | cont => exact q
theorem pssa_one (h1 : PSA X b st t) : PSsA X b [st] t := by
  refine ⟨fun pins s σ H D I h => ks_wpAt_execs_cons (ks_wpAt_mono (h1.run pins s σ H D I h) (fun f s1 q => ?_) fun _ _ z => z)⟩
  cases f with
  | next => exact wpAt_of_wpAny (wpAny_execs_nil q)
  | ret v => exact q
  | brk => exact q
  | cont => exact q
theorem psa_expr (he : PEA X b e te) (hs : swapsWith e none pos.line X.env = pure false := by rfl) : PSA X b (.Expr e pos) (tDrop te) :=
  ⟨fun pins s σ H D I h => ks_wpAt_Expr_any (ks_wpAt_mono (he.run pins s σ H _ I h) (fun v s1 ⟨x, H1, I1, r1, q1⟩ => ⟨σ, H1, I1, q1⟩) fun _ _ z => z) I.quiet hs⟩
theorem psa_ret (he : PEA X b e te) : PSA X b (.Return (some e) pos) (tRet te) :=
  ⟨fun pins s σ H D I h => ks_wpAt_Return_some (ks_wpAt_mono (he.run pins s σ H _ I h) (fun v s1 ⟨x, H1, I1, r1, q1⟩ => ⟨x, σ, H1, I1, r1, q1⟩) fun _ _ z => z)⟩
theorem psa_if {c : Expr} {a o : List Stmt} {tc : TT} (hc : PT X c tc) (ha : PSsA X b a t) (hb : PSsA X b o u) : PSA X b (.If c a o pos) (tIfS tc t u) := by
  refine ⟨fun pins s σ H D I h => ks_wpAt_If (ks_wpAt_mono (wpAt_of_wpAny (hc.run pins s σ H _ I h)) (fun d s1 ⟨H1, I1, q1⟩ => ?_) fun _ _ z => z)⟩
  cases d with
  | true => exact ha.run pins s1 σ H1 D I1 q1
  | false => exact hb.run pins s1 σ H1 D I1 q1
theorem pea_op {op : Operator} {r : R2} (ho : OpR X (binaryOp op) r) (ha : PEA X b e te) (hb : PE X e2 te2) : PEA X b (.BinOp e op e2 pos) (tOp r te te2) := by
  refine ⟨fun pins s σ H Q I h => ks_wpAt_BinOp (ks_wpAt_mono (ha.run pins s σ H _ I h) (fun v s1 ⟨x, H1, I1, r1, q1⟩ => ?_) fun _ _ z => z)⟩
  exact thn (hb.run pins s1 σ H1 _ I1 q1) fun u s2 ⟨y, H2, I2, r2, q2⟩ => ho pins s2 σ H2 x y v u Q I2 r1 r2 q2
end
/-! ### super().m(..) -/
/-- what the text tells of a def that says super(): its class, its cell, its code -/
structure SupT (X : Cx) (f cda cc D : Addr) (ar : Str) : Prop where
  ks : X.env.kindOf "super" = some .globalImplicit
  kc : X.env.kindOf "__class__" = some .free
  fu : X.env.func = some f
  co : X.env.code = .ref cda
  cl : X.env.cells.lookup ("__class__" : Str) = some cc
  fn : ∃ oc od fd osl, X.K.lookup f = some ⟨oc, od, .func fd, osl⟩ ∧ ∃ a, (fd.params.posonlyargs ++ fd.params.args).head? = some a ∧ a.arg = ar
  code : ∃ ccl cdd vs ccs file tf, X.K.lookup cda = some ⟨ccl, cdd, .fields vs, ccs⟩ ∧ vs[2]? = some (.str file tf) ∧ ((X.prog.main.file : Str) == file) = true
  cell : ∃ cl cld csl, X.K.lookup cc = some ⟨cl, cld, .cell (some (.ref D)), csl⟩
  isD : PySem.W.isClsIn X.K D = true
  top : (X.prog.main.scope.names.lookup ("super" : Str)).isSome = false
  mg : X.mg "super" = none
  opq : PySem.W.nsIn X.K cStatics "thirdparty.any" = some none
  karg : X.env.kindOf ar = some .local
/-- from an object of the class at C, above D, the def found is f2 -/
structure Sup (K : PySem.W.Frag) (C D : Addr) (m : Str) (f2 : Addr) : Prop where
  sub : PySem.W.mroIn K C (.ref D) = some true
  at_ : PySem.W.ks_superIn K C D m = some (some (.ref f2))
  ty : PySem.W.typeIn K (.ref f2) = some (.type "function")
  fi : PySem.W.fnIn K f2 = true
theorem boot_super : bootBuiltins "super" = some (.type "super") := by decide +kernel
section
variable {X : Cx} {b : List Stmt} {CX : CXT} {k i : Nat} {f cda cc D : Addr} {ar m : Str} {E : XK} {p0 p1 sp_ apos pos : Pos} {e : Expr} {es : List Expr} {te : TE} {t : TA} {pl : Sem Bool}
/-- the object, the def found above, its promise -/
def SupAt (X : Cx) (CX : CXT) (k i : Nat) (D : Addr) (m : Str) (σ : L2.St) (H : Hp) (a : Addr) (sp : Sp) : Prop := ∃ C dx fs f2, σ[i]? = some (some (.ref a)) ∧ H a = some (.ins C dx fs) ∧ Sup X.K C D m f2 ∧ FnR X.prog X.w X.K X.mg X.base CX k f2 sp
/-- super() and the method behind it -/
theorem sup_meth {pins : List (Addr × Obj)} {s : Shared} {σ : L2.St} {H : Hp} {a : Addr} {sp : Sp} {whole : Sem Value} {Q : Value × List Value → Shared → Prop} (T : SupT X f cda cc D ar) (hN : X.N[i]? = some ar) (hm : (m == ("__class__" : Str)) = false) (I : Inv X pins σ H s) (h : SupAt X CX k i D m σ H a sp)
    (hq : ∀ q f2 s', X.base.get? q = none → PySem.W.fnIn X.K f2 = true → FnR X.prog X.w X.K X.mg X.base CX k f2 sp → Inv X ((q, PySem.W.methodObj (.ref f2) (.ref a)) :: pins) σ H s' → Q (.ref q, []) s') :
    PySem.wpAt (model X.prog X.w) X.A (.func b X.env) (attributeBase (.Call (.Name "super" p0) [] [] p1) m X.env whole) (fun ov s1 => wpAny (model X.prog X.w) X.A (getMethod ov m pl) Q X.xe s1) X.xe s := by
  obtain ⟨C, dx, fs, f2, hs, ha, S, F⟩ := h
  obtain ⟨oc, od, fd, osl, lf, ar', hp, ea⟩ := T.fn
  obtain ⟨ccl, cdd, vs, ccs, file, tf, lc, hvs, hfile⟩ := T.code
  obtain ⟨cl, cld, csl, lcell⟩ := T.cell
  obtain ⟨cdD, hD⟩ := Option.isSome_iff_exists.mp (show (PySem.W.clsIn X.K D).isSome = true from T.isD)
  obtain ⟨mA, O, _⟩ := ins_get I.hok ha
  obtain ⟨oi, J, _⟩ := O.look
  obtain ⟨mL, hloc, hlk⟩ := I.loc
  obtain ⟨u, ru, lk⟩ := hlk i ar (.ref a) hN hs (.inl T.karg)
  obtain rfl : u = Value.ref a := ru
  have hma : mL ar = some (.ref a) := by
    rcases lk with ⟨_, q⟩ | ⟨q, _⟩
    · exact q
    · rcases q with q | q <;> (rw [T.karg] at q; cases q)
  subst ea
  obtain ⟨oD, hD1, hD2⟩ : ∃ oD, s.heap.get? D = some oD ∧ oD.data = .cls cdD := by
    unfold PySem.W.clsIn at hD
    split at hD
    · rename_i c d cd' sl ho
      cases hD
      exact ⟨_, I.kIn _ _ ho, rfl⟩
    · cases hD
  refine ks_wpAt_super_base T.ks T.kc hm T.fu (I.kIn _ _ lf) rfl hp T.co (I.kIn _ _ lc) rfl hvs hfile T.top ?_
  obtain ⟨mb, hb1, hb2⟩ := I.mod.blt
  refine PySem.W.ks_loadName_global I.ok.kind T.ks (Calls.loadGlobal_builtin (by rw [I.ok.glob]; exact I.mod.glob.keeps I.bk) T.mg (by rw [I.ok.blt]; exact hb1.keeps I.bk) ((hb2 _ (by decide)).trans boot_super) ⟨rfl, ?_⟩)
  refine wpAny_loadName_free I.ok.kind T.kc T.cl ⟨_, I.kIn _ _ lcell, rfl⟩ ?_
  refine wpAny_loadName_local I.ok.kind T.karg hloc hma ?_
  obtain ⟨hh, g, dr, tk, os⟩ := s
  refine ks_wpAny_isType_cls hD1 hD2 ⟨rfl, ?_⟩
  refine ks_wpAny_call_super hD1 hD2 J.at_ J.cls (fun c e => ?_) (PySem.W.looks_mroIn I.kIn S.sub) (fun h' eso kp => ?_)
  · have := J.no
    unfold PySem.W.notCls at this
    rw [e] at this
    exact Bool.noConfusion this
  · have I2 : Inv X pins σ H { (⟨hh, g, dr, tk, os⟩ : Shared) with heap := h' } := I.kept (t' := tk) kp
    have hz : hh.objs.size < h'.objs.size := Heap.lt_size eso
    cases hc : PySem.W.clsIn X.K C with
    | none =>
      have := S.at_
      unfold PySem.W.ks_superIn at this
      rw [hc] at this
      cases this
    | some cd =>
      have hs2 := S.at_
      unfold PySem.W.ks_superIn at hs2
      rw [hc] at hs2
      obtain ⟨of, hof, hofc⟩ : ∃ of, h'.get? f2 = some of ∧ of.cls = .type "function" := by
        have ht' : (X.K.lookup f2).map (·.cls) = some (.type "function") := S.ty
        cases z : X.K.lookup f2 with
        | none => rw [z] at ht'; cases ht'
        | some of => rw [z] at ht'; exact ⟨of, I2.kIn _ _ z, Option.some.inj ht'⟩
      have J2 : PySem.W.InstAt h' a (instObj C dx) C (some oi) := ⟨kp _ _ J.at_, J.cls, J.no, kp _ _ J.dict⟩
      refine ks_wpAny_getMethod_super eso (PySem.W.looks_opaque I2.kIn T.opq) (l₀ := cd.mro) (fun A Q E s k q => wpAny_bind ((PySem.W.looks_clsIn I2.kIn hc) A _ E s k (wpAny_pure q))) rfl I2.kIn hs2 hof hofc (PySem.W.ks_ne I2.kIn J2 hc) hm ?_
      exact hq _ f2 _ (ClX.base_none I2 (Nat.le_refl _)) S.fi F (ClX.met_new I2)
end
/-- o.m of a super object, read as an attribute -/
theorem getAttr_super {prog : Program} {w : World} {A : Around} {E : Value → Shared → Prop} {h : Heap} {g : Array GenState} {d : Drawn} {t : Nat} {os : OsState} {so D x C f : Addr} {of : Obj} {l₀ l : List Value} {K : Frag} {name : Str} {Q : Value → Shared → Prop}
    (hso : h.get? so = some { cls := .type "super", dict := none, data := .fields #[.ref D, .ref x, .ref C], slots := #[] }) (hno : Looks (model prog w) h (opaqueClassAbove (.ref C)) none)
    (hC : Looks (model prog w) h (mroOf (.ref C)) l₀) (hl : (l₀.dropWhile (· != .ref D)).drop 1 = l) (X : K.In h)
    (hf : alongIn K name l = some (some (.ref f))) (hfo : h.get? f = some of) (hfc : of.cls = .type "function") (hxC : x ≠ C) (hn : (name == ("__class__" : Str)) = false)
    (hq : Q (.ref h.objs.size) ⟨h.push { cls := .type "method", data := .fields #[.ref f, .ref x] }, g, d, t + 1, os⟩) : wpAny (model prog w) A (getAttr (.ref so) name true) Q E ⟨h, g, d, t, os⟩ := by
  have hlk := F.ks_slot_super_ga.lookup
  have tyS : ∀ t', (⟨h, g, d, t', os⟩ : Shared).TypeIs (.ref so) "super" := fun _ => ⟨_, hso, rfl⟩
  unfold getAttr getAttrBy
  refine wpAny_bind (wpAny_mkText (wpAny_holding (wpAny_bind (wpAny_typeOf (tyS _) (wpAny_bind (wpAny_of_eq hlk ?_))))))
  show wpAny _ _ (getAttrByItsOwn (.ref so) (.str name t) (.type "super") (.builtin "super.__getattribute__") _ _) _ _ _
  unfold getAttrByItsOwn hookBefore callGetattribute boundAndCalled
  refine wpAny_bind (wpAny_of_eq (show (if onTheHeap (.type "super") then typeLookup (.type "super") "__getattr__" else pure none) = pure none from rfl) ?_)
  refine wpAny_bind (wpAny_attempt (wpAny_holding ?_))
  show wpAny _ _ (bindSpecial (.builtin "super.__getattribute__") (.ref so) >>= _) _ _ _
  refine wpAny_bind (wpAny_of_eq (F.ks_slot_super_ga.bind _) ?_)
  refine wpAny_mono (Q := fun v s' => v = .ref h.objs.size ∧ s' = ⟨h.push { cls := .type "method", data := .fields #[.ref f, .ref x] }, g, d, t + 1, os⟩) (E := fun _ _ => False)
    (wpAny_call_entry F.ks_slot_super_ga (tyS _) F.ks_entry_super_ga (ks_wpAny_super_ga hso hno hC hl X hf hfo hfc hxC hn ⟨_, rfl, rfl, rfl⟩) (F.ks_gaArgs_super _ _)) (fun v s' hv => ?_) fun _ _ z => z.elim
  obtain ⟨rfl, rfl⟩ := hv
  exact wpAny_pure hq
/-- o.m(.., *y) where the def's own code runs -/
theorem at_starcall {M : Model} {A : Around} {c : Code} {E : Value → Shared → Prop} {s : Shared} {env : Env} {o : Expr} {name : Str} {apos pos : Pos} {args : List Expr} {Q : Value → Shared → Prop} (hform : methodCallForm (args.length + ([] : List Keyword).length) (backTo pos (starEach args env)) (backToKw pos (keywordEach [] env)) = false)
    (h : PySem.wpAt M A c (attributeBase o name env (eval o env)) (fun ov s₁ => wpAny M A (getAttr ov name true) (fun f s₂ => wpAny M A (callWith pos f [] (backTo pos (starEach args env)) []) Q E s₂) E s₁) E s) : PySem.wpAt M A c (eval (.Call (.Attribute o name apos) args [] pos) env) Q E s := by
  rw [arm_eval_Call]
  refine PySem.wpAt_bind (PySem.wpAt_mono h (fun ov s₁ h₁ => wpAt_of_wpAny (wpAny_bind (wpAny_standAt ?_))) fun _ _ x => x)
  unfold methodCall
  rw [hform]
  refine wpAny_bind (wpAny_holding (wpAny_bind (wpAny_mono h₁ (fun f s₂ h₂ => wpAny_pure ?_) fun _ _ x => x)))
  exact wpAny_bind (wpAny_pure h₂)
section
variable {X : Cx} {b : List Stmt} {CX : CXT} {k i : Nat} {f cda cc D : Addr} {ar m : Str} {E : XK} {p0 p1 sp_ apos pos : Pos} {e : Expr} {es : List Expr} {te : TE} {t : TA} {pl : Sem Bool}
/-- super() and the method behind it, read as an attribute -/
theorem sup_attr {pins : List (Addr × Obj)} {s : Shared} {σ : L2.St} {H : Hp} {a : Addr} {sp : Sp} {whole : Sem Value} {Q : Value → Shared → Prop} (T : SupT X f cda cc D ar) (hN : X.N[i]? = some ar) (hm : (m == ("__class__" : Str)) = false) (I : Inv X pins σ H s) (h : SupAt X CX k i D m σ H a sp)
    (hq : ∀ q f2 s', X.base.get? q = none → PySem.W.fnIn X.K f2 = true → FnR X.prog X.w X.K X.mg X.base CX k f2 sp → Inv X ((q, PySem.W.methodObj (.ref f2) (.ref a)) :: pins) σ H s' → Q (.ref q) s') :
    PySem.wpAt (model X.prog X.w) X.A (.func b X.env) (attributeBase (.Call (.Name "super" p0) [] [] p1) m X.env whole) (fun ov s1 => wpAny (model X.prog X.w) X.A (getAttr ov m true) Q X.xe s1) X.xe s := by
  obtain ⟨C, dx, fs, f2, hs, ha, S, F⟩ := h
  obtain ⟨oc, od, fd, osl, lf, ar', hp, ea⟩ := T.fn
  obtain ⟨ccl, cdd, vs, ccs, file, tf, lc, hvs, hfile⟩ := T.code
  obtain ⟨cl, cld, csl, lcell⟩ := T.cell
  obtain ⟨cdD, hD⟩ := Option.isSome_iff_exists.mp (show (PySem.W.clsIn X.K D).isSome = true from T.isD)
  obtain ⟨mA, O, _⟩ := ins_get I.hok ha
  obtain ⟨oi, J, _⟩ := O.look
  obtain ⟨mL, hloc, hlk⟩ := I.loc
  obtain ⟨u, ru, lk⟩ := hlk i ar (.ref a) hN hs (.inl T.karg)
  obtain rfl : u = Value.ref a := ru
  have hma : mL ar = some (.ref a) := by
    rcases lk with ⟨_, q⟩ | ⟨q, _⟩
    · exact q
    · rcases q with q | q <;> (rw [T.karg] at q; cases q)
  subst ea
  obtain ⟨oD, hD1, hD2⟩ : ∃ oD, s.heap.get? D = some oD ∧ oD.data = .cls cdD := by
    unfold PySem.W.clsIn at hD
    split at hD
    · rename_i c d cd' sl ho
      cases hD
      exact ⟨_, I.kIn _ _ ho, rfl⟩
    · cases hD
  refine ks_wpAt_super_base T.ks T.kc hm T.fu (I.kIn _ _ lf) rfl hp T.co (I.kIn _ _ lc) rfl hvs hfile T.top ?_
  obtain ⟨mb, hb1, hb2⟩ := I.mod.blt
  refine PySem.W.ks_loadName_global I.ok.kind T.ks (Calls.loadGlobal_builtin (by rw [I.ok.glob]; exact I.mod.glob.keeps I.bk) T.mg (by rw [I.ok.blt]; exact hb1.keeps I.bk) ((hb2 _ (by decide)).trans boot_super) ⟨rfl, ?_⟩)
  refine wpAny_loadName_free I.ok.kind T.kc T.cl ⟨_, I.kIn _ _ lcell, rfl⟩ ?_
  refine wpAny_loadName_local I.ok.kind T.karg hloc hma ?_
  obtain ⟨hh, g, dr, tk, os⟩ := s
  refine ks_wpAny_isType_cls hD1 hD2 ⟨rfl, ?_⟩
  refine ks_wpAny_call_super hD1 hD2 J.at_ J.cls (fun c e => ?_) (PySem.W.looks_mroIn I.kIn S.sub) (fun h' eso kp => ?_)
  · have := J.no
    unfold PySem.W.notCls at this
    rw [e] at this
    exact Bool.noConfusion this
  · have I2 : Inv X pins σ H { (⟨hh, g, dr, tk, os⟩ : Shared) with heap := h' } := I.kept (t' := tk) kp
    have hz : hh.objs.size < h'.objs.size := Heap.lt_size eso
    cases hc : PySem.W.clsIn X.K C with
    | none =>
      have := S.at_
      unfold PySem.W.ks_superIn at this
      rw [hc] at this
      cases this
    | some cd =>
      have hs2 := S.at_
      unfold PySem.W.ks_superIn at hs2
      rw [hc] at hs2
      obtain ⟨of, hof, hofc⟩ : ∃ of, h'.get? f2 = some of ∧ of.cls = .type "function" := by
        have ht' : (X.K.lookup f2).map (·.cls) = some (.type "function") := S.ty
        cases z : X.K.lookup f2 with
        | none => rw [z] at ht'; cases ht'
        | some of => rw [z] at ht'; exact ⟨of, I2.kIn _ _ z, Option.some.inj ht'⟩
      have J2 : PySem.W.InstAt h' a (instObj C dx) C (some oi) := ⟨kp _ _ J.at_, J.cls, J.no, kp _ _ J.dict⟩
      refine getAttr_super eso (PySem.W.looks_opaque I2.kIn T.opq) (l₀ := cd.mro) (fun A Q E s k q => wpAny_bind ((PySem.W.looks_clsIn I2.kIn hc) A _ E s k (wpAny_pure q))) rfl I2.kIn hs2 hof hofc (PySem.W.ks_ne I2.kIn J2 hc) hm ?_
      exact hq _ f2 _ (ClX.base_none I2 (Nat.le_refl _)) S.fi F (ClX.met_new I2)
/-- super().m(*e) -/
def tSup1 (X : Cx) (CX : CXT) (k i : Nat) (D : Addr) (m : Str) (E : XK) (te : TE) : TE := fun σ H Q => ∃ a sp, SupAt X CX k i D m σ H a sp ∧ te σ H fun y H1 => ∃ q xs, y = V.ref q ∧ (SqT X.K H1 q xs ∨ SqL X.K H1 q xs) ∧ sp (.ref a :: xs) H1 Q E
theorem pea_sup1 (T : SupT X f cda cc D ar) (hN : X.N[i]? = some ar) (hr : Room k X.A) (hx : Passes CX X E) (he : PE X e te) (hm : (m == ("__class__" : Str)) = false := by decide) (hst : starEach [.Starred e sp_] X.env = [(true, eval e X.env)] := by rfl) (hform : methodCallForm ([Expr.Starred e sp_].length + ([] : List Keyword).length) (backTo pos (starEach [.Starred e sp_] X.env)) (backToKw pos (keywordEach [] X.env)) = false := by rfl) :
    PEA X b (.Call (.Attribute (.Call (.Name "super" p0) [] [] p1) m apos) [.Starred e sp_] [] pos) (tSup1 X CX k i D m E te) := by
  refine ⟨fun pins s σ H Q I h => ?_⟩
  obtain ⟨a, sp, hs, h⟩ := h
  refine at_starcall hform (sup_attr T hN hm I hs fun q f2 s1 hb hf F I1 => ?_)
  show wpAny _ _ (callWith pos (.ref q) [] (backTo pos (starEach [.Starred e sp_] X.env)) []) _ _ _
  rw [hst]
  refine PySem.W.ks_call rfl (PySem.W.keeps_M (self := .ref a) hf) (PySem.W.ks_lone (thn (he.run _ s1 σ H _ I1 h) fun v s2 ⟨y, H1, I2, ry, qq, xs, ey, hxs, q2⟩ => ?_))
  subst ey
  obtain rfl : v = Value.ref qq := ry
  exact StX.star_any I2 hxs fun us s3 I3 rv => ⟨⟨ClX.pin_at I3, I3.kIn⟩, ClX.run_cm F hr hx I3 rv q2⟩
/-- super().m(e, .., *y) -/
def tSup (X : Cx) (CX : CXT) (k i : Nat) (D : Addr) (m : Str) (E : XK) (t : TA) : TE := fun σ H Q => ∃ a sp, SupAt X CX k i D m σ H a sp ∧ t σ H fun vs H1 => sp (.ref a :: vs) H1 Q E
theorem pea_sup2 (T : SupT X f cda cc D ar) (hN : X.N[i]? = some ar) (hr : Room k X.A) (hx : Passes CX X E) (ha : PA X (e :: es) t) (hm : (m == ("__class__" : Str)) = false := by decide)
    (he : starEach (e :: es) X.env = (false, eval e X.env) :: starEach es X.env := by rfl) (hst : (backTo pos (starEach es X.env)).any (·.1) = true := by rfl) (hform : methodCallForm ((e :: es).length + ([] : List Keyword).length) (backTo pos (starEach (e :: es) X.env)) (backToKw pos (keywordEach [] X.env)) = false := by rfl) :
    PEA X b (.Call (.Attribute (.Call (.Name "super" p0) [] [] p1) m apos) (e :: es) [] pos) (tSup X CX k i D m E t) := by
  refine ⟨fun pins s σ H Q I h => ?_⟩
  obtain ⟨a, sp, hs, h⟩ := h
  refine at_starcall hform (sup_attr T hN hm I hs fun q f2 s1 hb hf F I1 => ?_)
  show wpAny _ _ (callWith pos (.ref q) [] (backTo pos (starEach (e :: es) X.env)) []) _ _ _
  have z := ha.run pos _ s1 σ H _ I1 h
  rw [he] at z ⊢
  refine PySem.W.ks_call (by show (false || (backTo pos (starEach es X.env)).any (·.1)) = true; rw [hst]; rfl) (PySem.W.keeps_M (self := .ref a) hf) (PySem.Calls.evalArgs_plain (thn z fun us s2 ⟨vs, H1, I2, rv, q2⟩ => ?_))
  exact ⟨⟨ClX.pin_at I2, I2.kIn⟩, ClX.run_cm F hr hx I2 rv q2⟩
/-- super().m(e, ..) -/
theorem pea_sup (T : SupT X f cda cc D ar) (hN : X.N[i]? = some ar) (hr : Room k X.A) (hx : Passes CX X E) (ha : PA X (e :: es) t) (hm : (m == ("__class__" : Str)) = false := by decide)
    (he : starEach (e :: es) X.env = (false, eval e X.env) :: starEach es X.env := by rfl) (hpl : (backTo pos (starEach es X.env)).any (·.1) = false := by rfl)
    (hc : eval (.Call (.Attribute (.Call (.Name "super" p0) [] [] p1) m apos) (e :: es) [] pos) X.env = (do
      let ov ← attributeBase (.Call (.Name "super" p0) [] [] p1) m X.env (eval (.Call (.Name "super" p0) [] [] p1) X.env)
      standAt apos.atName
      let (f, first) ← holding [ov] (getMethod ov m pl)
      callWith pos f first (backTo pos (starEach (e :: es) X.env)) []) := by rfl) :
    PEA X b (.Call (.Attribute (.Call (.Name "super" p0) [] [] p1) m apos) (e :: es) [] pos) (tSup X CX k i D m E t) := by
  refine ⟨fun pins s σ H Q I h => ?_⟩
  obtain ⟨a, sp, hs, h⟩ := h
  refine ks_wpAt_MethodCall (pl := pl) (sup_meth T hN hm I hs fun q f2 s1 hb hf F I1 => ?_) hc
  refine ClX.callwith_cm I1 hb hf (thn (ha.run pos _ s1 σ H _ I1 h) fun us s2 ⟨vs, H1, I2, rv, q2⟩ => ⟨⟨ClX.pin_at I2, I2.kIn⟩, ?_⟩) he hpl
  exact ClX.run_cm F hr hx I2 rv q2
end
/-! ### the def by its body -/
/-- the text of such a def -/
def nfOf (st : Stmt) (x qual : Str) (cda cc : Addr) : NF := ⟨x, qual, defArgs st, defBody st, defScope st, [("__class__", cc)], cda⟩
structure FunS (K : PySem.W.Frag) (x qual : Str) (st : Stmt) (f cda cc D : Addr) (kV doc pm ct : Value) (an : Option Addr) : Prop where
  lk : ∃ oc od osl, K.lookup f = some ⟨oc, od, .func (PySem.W.ksFn x qual (defArgs st) (defBody st) (defScope st) .none kV doc pm an (.ref cda) ct cc), osl⟩
  code : PySem.W.codeIn K (.ref cda) qual = true
  cell : ∃ cl cld csl, K.lookup cc = some ⟨cl, cld, .cell (some (.ref D)), csl⟩
section
variable {CX : CXT} {P : Program} {w : World} {K : PySem.W.Frag} {mg : Str → Option Value} {base : Heap} {k : Nat} {f cda cc D : Addr} {x qual : Str} {st : Stmt} {kV doc pm ct : Value} {an : Option Addr} {N ps : List Str}
theorem cells_super {s : Shared} {H : Hp} {A : Around} {outer : List Env} (F : FunS K x qual st f cda cc D kV doc pm ct an) (e0 : Env0 P w K mg base A outer s H) : CellsAt (nfOf st x qual cda cc).cl ["__class__"] [some (.ref D)] s.heap H := by
  obtain ⟨cl, cld, csl, lc⟩ := F.cell
  have hb := e0.mod.kin _ _ lc
  have h1 := e0.bs _ _ hb
  have look : ∀ y c, (nfOf st x qual cda cc).cl.lookup y = some c → y = "__class__" ∧ c = cc := fun y c q => by
    have q : ([("__class__", cc)] : List (Str × Addr)).lookup y = some c := q
    rw [List.lookup_cons] at q
    by_cases e : (y == ("__class__" : Str)) = true
    · rw [e] at q
      exact ⟨eq_of_beq e, (Option.some.inj q).symm⟩
    · rw [Bool.eq_false_iff.mpr e] at q
      cases q
  refine ⟨rfl, fun y c q => ?_, fun a b c q1 q2 => ?_, fun i y q => ?_⟩
  · obtain ⟨_, rfl⟩ := look y c q
    exact ⟨h1.2, _, ⟨_, h1.1, rfl⟩⟩
  · rw [(look a c q1).1, (look b c q2).1]
  · cases i with
    | zero =>
      obtain rfl : ("__class__" : Str) = y := Option.some.inj q
      refine ⟨cc, rfl, fun v hv => ?_⟩
      obtain rfl : V.ref D = v := Option.some.inj (Option.some.inj hv)
      exact ⟨.ref D, rfl, _, h1.1, rfl⟩
    | succ i => cases q
theorem run_sup {A : Around} {outer : List Env} {s : Shared} {H : Hp} {args : Args} {Q : VK} {E : XK} {G : List V → Hp → Prop} (F : FunS K x qual st f cda cc D kV doc pm ct an) (S : NScope N ps ["__class__"] (defScope st)) (hr : Room (k + 1) A) (e0 : Env0 P w K mg base A outer s H)
    (hb : StX.Bnd CX P w K mg base (PySem.W.ksFn x qual (defArgs st) (defBody st) (defScope st) .none kV doc pm an (.ref cda) ct cc) args ps A outer s H E G)
    (hbody : ∀ (s2 : Shared) (H2 : Hp) (vs : List V), G vs H2 → Room k (A.deeper (envF (nfOf st x qual cda cc) f s2.heap.objs.size)) →
      ∃ t, PSsA (ncx CX P w K mg base N (nfOf st x qual cda cc) f A outer s2 H2 E) (defBody st) (defBody st) t ∧ t { nx := fun _ H' => Q .non H', rt := Q } (startF N vs [some (.ref D)]) H2) :
    codeAny (model P w) A (.call (.ref f) args) (CR CX outer P w H s Q E) s := by
  have KX : K.In s.heap := e0.mod.kin.keeps fun b o e => (e0.bs b o e).1
  obtain ⟨oc, od, osl, lk⟩ := F.lk
  refine codeAny_call_function hr.depth (KX _ _ lk) rfl S.co S.gen rfl (PySem.W.codeRec_of KX F.code) ?_
  refine hb _ _ _ fun s2 H2 vs us e2 un ho hx r hl g => ?_
  have lim : s2.heap.NoLimit := e0.mod.nolimit.keeps fun b o e => (e2.bs b o e).1
  refine wpAny_newFunctionEnv S.nocell (fun ⟨n, _⟩ hy => S.par n (List.of_mem_zip hy).1) (fun h₁ hns hsb => ⟨lim.fresh _ hsb, ?_⟩) S.kind
  show codeAny _ _ (.func (defBody st) (envF (nfOf st x qual cda cc) f s2.heap.objs.size)) _ _
  have kp : ∀ b o, s2.heap.get? b = some o → h₁.get? b = some o := fun b o e => hsb.extBut b o (Nat.ne_of_lt (Heap.lt_size e)) (Heap.get?_push_of_some _ e)
  obtain ⟨t, ht, hq⟩ := hbody s2 H2 vs g (hr.deeper _)
  have I : Inv (ncx CX P w K mg base N (nfOf st x qual cda cc) f A outer s2 H2 E) [] (startF N vs [some (.ref D)]) H2 { s2 with heap := h₁, toks := s2.toks + (ps.zip us).length } := inv_startN S hr.hd e2 hl r (cells_super F e2) hns kp
  refine ks_codeAny_funcAt (ks_wpAt_mono (ht.run [] _ _ H2 _ I hq) (fun fl s' hs => ?_) fun e s' hs => ?_)
  · have fin : ∀ {σ' : L2.St} {H' : Hp} {v' : V} {u' : Value}, Inv (ncx CX P w K mg base N (nfOf st x qual cda cc) f A outer s2 H2 E) [] σ' H' s' → RelV v' u' → Q v' H' → CE outer P w H s Q u' s' :=
      fun {σ' H' v' u'} J rv' q => ⟨v', H', J.os.trans ho, J.bare, un.trans J.base, J.hok, rv', q⟩
    cases fl with
    | ret u' =>
      obtain ⟨v', σ', H', J, rv', q⟩ := hs
      exact fin J rv' q
    | next =>
      obtain ⟨σ', H', J, q⟩ := hs
      exact fin (v' := V.non) (u' := Value.none) J rfl q
    | brk =>
      obtain ⟨_, _, _, q⟩ := hs
      exact False.elim q
    | cont =>
      obtain ⟨_, _, _, q⟩ := hs
      exact False.elim q
  · exact wpAny_mono hs (fun _ s'' z => hx e s'' z) fun e' s'' z => hx e' s'' z
end
end Cs

set_option Elab.async false
set_option linter.all false
set_option maxRecDepth 100000
set_option maxHeartbeats 4000000
/-! xs[lo:hi:st] of a list: a new list. -/
namespace Cs
open PySem PySem.Spec PyProof.Rows L2
/-- the items' places -/
def stepI (n : Nat) (lo hi st : Option Int) : List Nat := sliceRange (sliceBounds lo hi st n).1 (sliceBounds lo hi st n).2.1 (sliceBounds lo hi st n).2.2
def stepV (xs : List V) (lo hi st : Option Int) : List V := (stepI xs.length lo hi st).filterMap (xs[·]?)
theorem vals_pick {xs : List V} {us : List Value} (r : Vals xs us) : ∀ is : List Nat, Vals (is.filterMap (xs[·]?)) (is.filterMap (us[·]?))
  | [] => .nil
  | i :: is => by
    have ih := vals_pick r is
    have hl := r.length
    by_cases h : i < xs.length
    · have h2 : i < us.length := by omega
      have r1 : RelV xs[i] us[i] := by
        obtain ⟨u, e, q⟩ := r.get (List.getElem?_eq_getElem h)
        rw [List.getElem?_eq_getElem h2] at e
        obtain rfl := Option.some.inj e
        exact q
      rw [List.filterMap_cons_some (List.getElem?_eq_getElem h), List.filterMap_cons_some (List.getElem?_eq_getElem h2)]
      exact .cons r1 ih
    · rw [List.filterMap_cons_none (List.getElem?_eq_none (by omega)), List.filterMap_cons_none (List.getElem?_eq_none (by omega))]
      exact ih
section
variable {X : Cx} {e : Expr} {te : TE} {lo hi : Option Expr} {st : Expr} {tl th ts : TO} {p2 pos : Pos}
def tSl3 (K : PySem.W.Frag) (te : TE) (tl th ts : TO) : TE := fun σ H Q => te σ H fun x H1 => tl σ H1 fun l H2 => th σ H2 fun u H3 => ts σ H3 fun d H4 =>
  ∃ a xs, x = .ref a ∧ SqL K H4 a xs ∧ d ≠ some 0 ∧ (stepV xs l u d).length ≤ sizeLine ∧ ∀ p, H4 p = none → Q (.ref p) (upd H4 p (.lst (stepV xs l u d)))
theorem pe_slice3 (he : PE X e te) (hl : PO X lo tl) (hu : PO X hi th) (hs : PO X (some st) ts) : PE X (.Subscript e (.Slice lo hi (some st) p2) pos) (tSl3 X.K te tl th ts) := by
  refine ⟨fun pins s σ H Q I h => ?_⟩
  refine Subscript_ (thn (he.run pins s σ H _ I h) fun v s1 ⟨x, H1, I1, r1, q1⟩ => ?_)
  refine wpAny_Slice (thn (hl.run pins s1 σ H1 _ I1 q1) fun vl s2 ⟨l, H2, I2, pl, q2⟩ => thn (hu.run pins s2 σ H2 _ I2 q2) fun vu s3 ⟨u, H3, I3, pu, q3⟩ => thn (hs.run pins s3 σ H3 _ I3 q3) fun vd s4 ⟨d, H4, I4, pd, q4⟩ => ?_)
  obtain ⟨a, xs, rfl, hx, hd0, hz0, q⟩ := q4
  cases r1
  have I5 : Inv X pins σ H4 { s4 with heap := s4.heap.push { cls := .type "slice", data := .fields #[vl, vu, vd] } } := I4.kept (t' := s4.toks) fun b ob q => Heap.get?_push_of_some _ q
  obtain ⟨its, r, ht, hz⟩ := I5.list hx
  show wpAny (model X.prog X.w) X.A (subscriptTail e (.Slice lo hi (some st) p2) (.ref a) (.ref s4.heap.objs.size)) (EP X pins σ Q) X.xe { s4 with heap := s4.heap.push { cls := .type "slice", data := .fields #[vl, vu, vd] } }
  refine tail_any (ops := [.ref a, .ref s4.heap.objs.size]) ht.isList.typeIs slot_list_getitem.lookup ?_ (by with_unfolding_all rfl)
  refine wpAny_getItem_list_slice ht.isList (Heap.IsSliceOf.new ..) pl pu pd hd0 ?_ (by rw [List.size_toArray]; have := r.length; omega)
  have er : slicePick its.toArray l u d = ((stepI xs.length l u d).filterMap (its[·]?)).toArray := by
    unfold slicePick stepI
    rw [List.size_toArray, r.length]
    congr 1
    refine congrFun (congrArg _ (funext fun i => ?_)) _
    simp
  rw [er]
  refine ⟨.ref _, _, I5.laid (t' := s4.toks) (o := .lst (stepV xs l u d)) (fun b ob q => Heap.get?_push_of_some _ q) (Nat.le_refl _) ?_, rfl, q _ (I5.hok.fresh (Nat.le_refl _))⟩
  exact ⟨hz0, _, 0, vals_pick r _, Heap.get?_push_size _ rfl⟩
end
end Cs

set_option Elab.async false
set_option linter.all false
set_option maxRecDepth 100000
set_option maxHeartbeats 4000000
set_option pp.maxSteps 600
/-! Kinds, ends, and how a rule is made. -/
namespace Cs
open PySem L2
def RES : List Str := ["hold", "look", "do", "row", "one", "all", "new", "give", "take", "join", "other", "if", "and", "or", "then", "gone"]
/-- a word that is not barred -/
def Kind (z : Str) : Prop := Word z ∧ z ∉ RES
/-- one to three kinds, none twice -/
structure Kinds (ks : List Str) : Prop where
  lo : 1 ≤ ks.length
  hi : ks.length ≤ 3
  nd : ks.Nodup
  kd : ∀ z ∈ ks, Kind z
/-- the module's tuple of barred words -/
def ResAt (K : PySem.W.Frag) (r : Addr) : Prop := ∀ H : Hp, SqT K H r (RES.map V.str)
theorem flat_str (zs : List Str) : (zs.map V.str).all flatV = true := by
  rw [List.all_map, List.all_eq_true]
  intro z _
  rfl
theorem in_str (z : Str) (zs : List Str) : inV (.str z) (zs.map V.str) = decide (z ∈ zs) := by
  unfold inV
  rw [List.any_map, Bool.eq_iff_iff, List.any_eq_true, decide_eq_true_eq]
  constructor
  · rintro ⟨y, m, e⟩
    have e : (y == z) = true := e
    rw [← eq_of_beq e]
    exact m
  · intro m
    exact ⟨z, m, beq_self_eq_true z⟩
def kindB (z : Str) : Bool := wordB z && !decide (z ∈ RES)
theorem kindB_of {z : Str} (h : Kind z) : kindB z = true := by
  unfold kindB
  rw [wordB_of h.1, decide_eq_false h.2]
  rfl
def spIsKind (K : PySem.W.Frag) : Sp := fun vs H Q _ => (∃ z : Str, vs = [.str z] ∧ z.length ≤ 100000 ∧ ∀ H', Same H H' → Q (.bl (kindB z)) H') ∨ (∃ x ty, vs = [x] ∧ TyX K H x (.type ty) ∧ kitB ty "str" = some false ∧ Q (.bl false) H)
def spIsBound (K : PySem.W.Frag) : Sp := fun vs H Q _ => (∃ n : Int, vs = [.int n] ∧ Q (.bl (decide (0 ≤ n) && decide (n ≤ 9))) H) ∨ (∃ x, vs = [x] ∧ NotInt K H x ∧ Q (.bl false) H)
def spDistinctT (K : PySem.W.Frag) : Sp := fun vs H Q _ => ∃ (a : Addr) (zs : List Str), vs = [.ref a] ∧ SqT K H a (zs.map V.str) ∧ zs.length ≤ 1000 ∧
  ∀ (p : Addr) (H' : Hp) (ws : List Str), H p = none → Same H H' → H' p = some (.lst (ws.map V.str)) → Asc ws → (∀ z, z ∈ ws ↔ z ∈ zs) → ws.length ≤ zs.length → Q (.ref p) H'
theorem nd_len {xs ys : List Str} (h : xs.Nodup) (k : ∀ z ∈ xs, z ∈ ys) : xs.length ≤ ys.length := by
  induction xs generalizing ys with
  | nil => exact Nat.zero_le _
  | cons x xs ih =>
    obtain ⟨h1, h2⟩ := List.nodup_cons.mp h
    have hx := k x List.mem_cons_self
    have := ih (ys := ys.erase x) h2 fun z hz => (List.mem_erase_of_ne (fun (e : z = x) => h1 (e ▸ hz))).mpr (k z (List.mem_cons_of_mem _ hz))
    rw [List.length_erase_of_mem hx] at this
    have : 0 < ys.length := List.length_pos_of_mem hx
    rw [List.length_cons]
    omega
section
variable {P : Program} {w : World} {K : PySem.W.Frag} {mg : Str → Option Value} {base : Heap}
theorem Same.seqT {H H' : Hp} {a : Addr} {xs : List V} (s : Same H H') (h : SqT K H a xs) : SqT K H' a xs := by
  rcases h with h | h
  · left
    rcases h with h | ⟨o, h⟩
    · exact .inl (s _ _ h)
    · exact .inr ⟨o, s _ _ h⟩
  · exact .inr h
theorem ok_is_kind {f fIw rR : Addr} {fd fdIw : FuncData} (F : Fun K "is_kind" "is_kind" s_is_kind f fd) (g : Bi mg) (FIw : Def P w K mg base CX0 1 "is_word" ["thing"] (spIsWord K) fIw fdIw) (mRES : mg "RESERVED" = some (.ref rR)) (hR : ResAt K rR) : FnOk P w K mg base CX0 2 f fd ["thing"] (spIsKind K) := by
  obtain ⟨GIw, mIw, _, bIw⟩ := id FIw
  refine F.ok sc_is_kind (fun vs H Q E h => ?_) (fun cdv A outer s H vs Q E hr h => ?_)
  · rcases h with ⟨_, rfl, _⟩ | ⟨_, _, rfl, _⟩ <;> rfl
  · have hrIw : Room 1 _ := hr.mono (by decide)
    refine ⟨_, (pss_one (ps_ret (pe_and (pe_call GIw hrIw rfl mIw FIw.kp bIw .nil pass0 (pa_cons (pv 0) pa_nil)) (pe_one (pe_cmpR op_notIn_seq (pv 0) (pe_glob (v := .ref rR) rfl mRES rfl) (by rfl)))))), ?_⟩
    rcases h with ⟨z, rfl, hz, q⟩ | ⟨x, ty, rfl, ht, hc, q⟩
    · refine ⟨_, rfl, .inl ⟨z, rfl, hz, fun H1 s1 => ⟨_, rfl, ?_⟩⟩⟩
      have q1 := q H1 s1
      unfold kindB at q1
      cases e : wordB z with
      | false =>
        rw [e] at q1
        exact iteF q1
      | true =>
        rw [e] at q1
        refine iteT ⟨_, rfl, rR, _, rfl, .inr (hR H1), rfl, flat_str RES, ?_⟩
        rw [in_str]
        exact q1
    · exact ⟨_, rfl, .inr ⟨x, ty, rfl, ht, hc, _, rfl, iteF q⟩⟩
theorem ok_distinctT {f : Addr} {fd : FuncData} (F : Fun K "distinct" "distinct" s_distinct f fd) (g : Bi mg) : FnOk P w K mg base CX0 1 f fd ["words"] (spDistinctT K) := by
  refine F.ok sc_distinct (fun vs H Q E h => ?_) (fun cdv A outer s H vs Q E hr h => ?_)
  · obtain ⟨_, _, rfl, _⟩ := h
    rfl
  · obtain ⟨a, zs, rfl, ha, hl, q⟩ := h
    refine ⟨_, (pss_one (ps_ret (pe_callB (cr_sortT rfl) (by rfl) g.sorted (by decide +kernel) (pa_cons (pe_scT (own := [("word", 1)]) (g := gName 1)  (by rfl) sc_distinct.nd (pi_tup (pv 0)) (blkOk_by (own := [("word", 1)]) (N := ["words", "word"]) (sc := defScope s_distinct) (by decide +kernel)) (fun _ _ _ _ _ => (pg_name (i := 1) sc_distinct.nd rfl (Or.inl rfl))) (fun _ _ _ _ _ => pts_nil) (fun _ _ _ _ _ => (pe_callTy SkE.call_str_str (by rfl) g.str (by decide +kernel) (pa_cons (pv 1) pa_nil)))) pa_nil)))), ?_⟩
    refine ⟨_, rfl, a, rfl, ⟨_, ha⟩, fun D hD => ?_⟩
    refine scT_it walk_tup (fun i H' => Same H H' ∧ H' D = some (TSetO w D (once (zs.take i)))) ⟨Same.new hD, upd_same⟩ (fun i H' _ h => Cs.Same.seqT h.1 ha) ?_ ?_
    · rintro i x H' H2 hi ⟨s', hD'⟩ ⟨rfl, hx⟩
      rw [List.length_map] at hi
      have ex : x = V.str zs[i] := by
        rw [List.getElem?_map, List.getElem?_eq_getElem hi] at hx
        exact (Option.some.inj hx).symm
      subst ex
      refine ⟨rfl, yes_it ?_⟩
      refine ⟨_, rfl, _, rfl, zs[i], _, rfl, hD', ?_, ?_, ?_⟩
      · have h1 := once_len (zs.take i)
        rw [List.length_take] at h1
        exact Nat.lt_of_le_of_lt (show (once (zs.take i)).length + 1 ≤ 1001 by omega) (by decide)
      · exact fun b o e => by rw [upd_ne (ne_of_none e hD)]; exact s' b o e
      · rw [upd_same, List.take_succ, List.getElem?_eq_getElem hi]
        show some (TSetO w D (addT (once (zs.take i)) zs[i])) = some (TSetO w D (once (zs.take i ++ [zs[i]])))
        rw [once_snoc]
    · rintro H' ⟨s', hD'⟩
      rw [List.length_map, List.take_length] at hD'
      have h1 := once_len zs
      refine ⟨D, _, rfl, hD', by omega, fun ys p hp hs hn => ?_⟩
      refine q p _ ys (s'.free hn) (s'.trans (Same.new hn)) upd_same (asc_of_sorted hs (hp.nodup_iff.mpr (once_nodup zs))) (fun z => by rw [hp.mem_iff, once_mem]) (by rw [hp.length_eq]; exact h1)
/-! ### the class Rule -/
/-- a class whose objects have kinds, a least and a most -/
structure RC (K : PySem.W.Frag) (C : Addr) : Prop where
  cl : Cls K C
  nk : NoAttr K C "kinds"
  nl : NoAttr K C "least"
  nm : NoAttr K C "most"
def spRuleB (C : Addr) : Sp := fun vs H Q _ => ∃ (x kt dx : Addr) (fs : List (Str × V)) (ks : List Str), vs = [.ref x, .ref kt] ∧ H x = some (.ins C dx fs) ∧ fs.length < 900 ∧ H kt = some (.tup (ks.map V.str)) ∧ Kinds ks ∧
  ∀ H', H' x = some (.ins C dx (putF "kinds" (.ref kt) fs)) → (∀ b o, H b = some o → b ≠ x → H' b = some o) → Q .non H'
def spRule (C : Addr) : Sp := fun vs H Q _ => ∃ (x dx : Addr) (fs : List (Str × V)) (ks : List Str), vs = .ref x :: ks.map V.str ∧ H x = some (.ins C dx fs) ∧ fs.length < 900 ∧ Kinds ks ∧
  ∀ (kt : Addr) (H' : Hp), H kt = none → H' kt = some (.tup (ks.map V.str)) → H' x = some (.ins C dx (putF "kinds" (.ref kt) fs)) → (∀ b o, H b = some o → b ≠ x → H' b = some o) → Q .non H'
end
end Cs

set_option Elab.async false
set_option linter.all false
set_option maxRecDepth 100000
set_option maxHeartbeats 8000000
/-! Doors: texts and tokens, plain. -/
namespace Dr
open PySem L2 Cs
/-- every second one, from the first on; from the second on -/
def evs {α : Type} : List α → List α
  | [] => []
  | [x] => [x]
  | x :: _ :: r => x :: evs r
def ods {α : Type} : List α → List α
  | [] => []
  | [_] => []
  | _ :: y :: r => y :: ods r
theorem step_evs : ∀ n, n ≤ 160 → stepI n (some 0) none (some 2) = (List.range ((n + 1) / 2)).map (fun i => 2 * i) ∧ stepI n (some 1) none (some 2) = (List.range (n / 2)).map (fun i => 2 * i + 1) := by
  intro n hn
  exact (show ∀ n, n < 161 → stepI n (some 0) none (some 2) = (List.range ((n + 1) / 2)).map (fun i => 2 * i) ∧ stepI n (some 1) none (some 2) = (List.range (n / 2)).map (fun i => 2 * i + 1) by decide +kernel) n (by omega)
theorem range_map_succ {β : Type} (f : Nat → β) (n : Nat) : (List.range (n + 1)).map f = f 0 :: (List.range n).map fun i => f (i + 1) := by
  rw [List.range_succ_eq_map, List.map_cons, List.map_map]
  rfl
theorem pick_evs {α : Type} : ∀ xs : List α, ((List.range ((xs.length + 1) / 2)).map (fun i => 2 * i)).filterMap (xs[·]?) = evs xs
  | [] => by simp [evs]
  | [x] => by simp [evs, List.range_succ]
  | x :: y :: r => by
    have e : ((x :: y :: r).length + 1) / 2 = (r.length + 1) / 2 + 1 := by simp; omega
    rw [e, range_map_succ, List.filterMap_cons_some (b := x) (by simp)]
    show _ = x :: evs r
    rw [← pick_evs r]
    congr 1
    rw [List.filterMap_map, List.filterMap_map]
    refine congrArg (fun f => List.filterMap f (List.range ((r.length + 1) / 2))) (funext fun i => ?_)
    show (x :: y :: r)[2 * (i + 1)]? = r[2 * i]?
    rw [show 2 * (i + 1) = 2 * i + 1 + 1 by omega, List.getElem?_cons_succ, List.getElem?_cons_succ]
theorem pick_ods {α : Type} : ∀ xs : List α, ((List.range (xs.length / 2)).map (fun i => 2 * i + 1)).filterMap (xs[·]?) = ods xs
  | [] => by simp [ods]
  | [x] => by simp [ods]
  | x :: y :: r => by
    have e : (x :: y :: r).length / 2 = r.length / 2 + 1 := by simp; omega
    rw [e, range_map_succ, List.filterMap_cons_some (b := y) (by simp)]
    show _ = y :: ods r
    rw [← pick_ods r]
    congr 1
    rw [List.filterMap_map, List.filterMap_map]
    refine congrArg (fun f => List.filterMap f (List.range (r.length / 2))) (funext fun i => ?_)
    show (x :: y :: r)[2 * (i + 1) + 1]? = r[2 * i + 1]?
    rw [show 2 * (i + 1) + 1 = 2 * i + 1 + 1 + 1 by omega, List.getElem?_cons_succ, List.getElem?_cons_succ]
theorem evs_map {α β : Type} (f : α → β) : ∀ xs : List α, evs (xs.map f) = (evs xs).map f
  | [] => rfl
  | [x] => rfl
  | x :: y :: r => by
    show f x :: evs (r.map f) = f x :: (evs r).map f
    rw [evs_map f r]
theorem ods_map {α β : Type} (f : α → β) : ∀ xs : List α, ods (xs.map f) = (ods xs).map f
  | [] => rfl
  | [x] => rfl
  | x :: y :: r => by
    show f y :: ods (r.map f) = f y :: (ods r).map f
    rw [ods_map f r]
theorem evs_len {α : Type} : ∀ xs : List α, (evs xs).length ≤ xs.length
  | [] => Nat.le_refl _
  | [x] => Nat.le_refl _
  | x :: y :: r => by
    show (evs r).length + 1 ≤ r.length + 1 + 1
    have := evs_len r
    omega
theorem ods_len {α : Type} : ∀ xs : List α, (ods xs).length ≤ xs.length
  | [] => Nat.le_refl _
  | [x] => by show 0 ≤ _; exact Nat.zero_le _
  | x :: y :: r => by
    show (ods r).length + 1 ≤ r.length + 1 + 1
    have := ods_len r
    omega
theorem evs_mem {α : Type} {z : α} : ∀ {xs : List α}, z ∈ evs xs → z ∈ xs
  | [], h => by cases h
  | [x], h => h
  | x :: y :: r, h => by
    rcases List.mem_cons.mp h with q | q
    · rw [q]; exact List.mem_cons_self
    · exact List.mem_cons_of_mem _ (List.mem_cons_of_mem _ (evs_mem q))
theorem ods_mem {α : Type} {z : α} : ∀ {xs : List α}, z ∈ ods xs → z ∈ xs
  | [], h => by cases h
  | [x], h => by cases h
  | x :: y :: r, h => by
    rcases List.mem_cons.mp h with q | q
    · rw [q]; exact List.mem_cons_of_mem _ List.mem_cons_self
    · exact List.mem_cons_of_mem _ (List.mem_cons_of_mem _ (ods_mem q))
theorem stepV_evs {zs : List Str} (h : zs.length ≤ 160) : stepV (zs.map V.str) (some 0) none (some 2) = (evs zs).map V.str := by
  unfold stepV
  rw [(step_evs _ (by rw [List.length_map]; exact h)).1, pick_evs, evs_map]
theorem stepV_ods {zs : List Str} (h : zs.length ≤ 160) : stepV (zs.map V.str) (some 1) none (some 2) = (ods zs).map V.str := by
  unfold stepV
  rw [(step_evs _ (by rw [List.length_map]; exact h)).2, pick_ods, ods_map]
/-! groups of tokens -/
def stepG (w : Str) (gs : List (List Str)) (t : Str) : List (List Str) := if t = w then gs ++ [[]] else gs.dropLast ++ [gs.getLastD [] ++ [t]]
def splitAt (w : Str) (ts : List Str) : List (List Str) := ts.foldl (stepG w) [[]]
theorem splitAt_snoc (w : Str) (ts : List Str) (t : Str) : splitAt w (ts ++ [t]) = stepG w (splitAt w ts) t := by
  unfold splitAt
  rw [List.foldl_append]
  rfl
theorem stepG_ne (w : Str) (gs : List (List Str)) (t : Str) : stepG w gs t ≠ [] := by
  unfold stepG
  split
  · simp
  · simp
theorem splitAt_ne (w : Str) (ts : List Str) : splitAt w ts ≠ [] := by
  have key : ∀ (ts : List Str) (gs : List (List Str)), gs ≠ [] → ts.foldl (stepG w) gs ≠ [] := by
    intro ts
    induction ts with
    | nil => exact fun gs h => h
    | cons t ts ih => exact fun gs _ => ih _ (stepG_ne w gs t)
  exact key ts [[]] (by simp)
/-- what stands ahead does not matter -/
theorem fold_pre (w : Str) (a : List (List Str)) : ∀ (ts : List Str) (g : List (List Str)), g ≠ [] → ts.foldl (stepG w) (a ++ g) = a ++ ts.foldl (stepG w) g
  | [], g, _ => rfl
  | t :: ts, g, h => by
    have e : stepG w (a ++ g) t = a ++ stepG w g t := by
      unfold stepG
      by_cases c : t = w
      · rw [if_pos c, if_pos c, List.append_assoc]
      · rw [if_neg c, if_neg c, List.dropLast_append_of_ne_nil h, List.append_assoc]
        congr 2
        congr 1
        rw [List.getLastD_eq_getLast?, List.getLastD_eq_getLast?, List.getLast?_append]
        cases e : g.getLast? with
        | none => exact absurd (List.getLast?_eq_none_iff.mp e) h
        | some x => rfl
    rw [List.foldl_cons, List.foldl_cons, e]
    exact fold_pre w a ts _ (stepG_ne w g t)
theorem fold_free (w : Str) : ∀ (ts : List Str) (g : List Str), w ∉ ts → ts.foldl (stepG w) [g] = [g ++ ts]
  | [], g, _ => by rw [List.append_nil]; rfl
  | t :: ts, g, h => by
    have ht : t ≠ w := fun e => h (by rw [e]; exact List.mem_cons_self)
    have e : stepG w [g] t = [g ++ [t]] := by
      unfold stepG
      rw [if_neg ht]
      rfl
    rw [List.foldl_cons, e, fold_free w ts _ fun q => h (List.mem_cons_of_mem _ q), List.append_assoc]
    rfl
theorem splitAt_free {w : Str} {ts : List Str} (h : w ∉ ts) : splitAt w ts = [ts] := fold_free w ts [] h
theorem splitAt_cons {w : Str} {a b : List Str} (h : w ∉ a) : splitAt w (a ++ w :: b) = a :: splitAt w b := by
  unfold splitAt
  rw [List.foldl_append, fold_free w a [] h, List.foldl_cons]
  have e : stepG w [[] ++ a] w = [a] ++ [[]] := by
    unfold stepG
    rw [if_pos rfl]
    rfl
  rw [e, fold_pre w [a] b [[]] (by simp)]
  rfl
theorem splitAt_len (w : Str) (ts : List Str) : (splitAt w ts).length ≤ ts.length + 1 := by
  have key : ∀ (ts : List Str) (gs : List (List Str)), gs ≠ [] → (ts.foldl (stepG w) gs).length ≤ gs.length + ts.length := by
    intro ts
    induction ts with
    | nil => exact fun gs _ => Nat.le_refl _
    | cons t ts ih =>
      intro gs h
      have h1 := ih (stepG w gs t) (stepG_ne w gs t)
      have h2 : (stepG w gs t).length ≤ gs.length + 1 := by
        unfold stepG
        split
        · simp
        · have : 0 < gs.length := List.length_pos_iff.mpr h
          rw [List.length_append, List.length_dropLast]
          show gs.length - 1 + 1 ≤ _
          omega
      rw [List.foldl_cons, List.length_cons]
      omega
  have := key ts [[]] (by simp)
  simp at this
  unfold splitAt
  omega
theorem lastD_mem {gs : List (List Str)} (h : gs ≠ []) : gs.getLastD [] ∈ gs := by
  rw [List.getLastD_eq_getLast?]
  cases e : gs.getLast? with
  | none => exact absurd (List.getLast?_eq_none_iff.mp e) h
  | some x => exact List.mem_of_getLast? e
theorem splitAt_mem {w : Str} {ts g : List Str} {z : Str} (hg : g ∈ splitAt w ts) (hz : z ∈ g) : z ∈ ts := by
  have key : ∀ (ts : List Str) (gs : List (List Str)), gs ≠ [] → ∀ g ∈ ts.foldl (stepG w) gs, ∀ z ∈ g, z ∈ ts ∨ ∃ g' ∈ gs, z ∈ g' := by
    intro ts
    induction ts with
    | nil => exact fun gs _ g hg z hz => .inr ⟨g, hg, hz⟩
    | cons t ts ih =>
      intro gs h g hg z hz
      rcases ih (stepG w gs t) (stepG_ne w gs t) g hg z hz with q | ⟨g', hg', hz'⟩
      · exact .inl (List.mem_cons_of_mem _ q)
      · unfold stepG at hg'
        split at hg'
        · rcases List.mem_append.mp hg' with q | q
          · exact .inr ⟨g', q, hz'⟩
          · rw [List.mem_singleton.mp q] at hz'; cases hz'
        · rcases List.mem_append.mp hg' with q | q
          · exact .inr ⟨g', (List.dropLast_sublist gs).subset q, hz'⟩
          · rw [List.mem_singleton.mp q] at hz'
            rcases List.mem_append.mp hz' with q2 | q2
            · refine .inr ⟨gs.getLastD [], ?_, q2⟩
              exact lastD_mem h
            · rw [List.mem_singleton.mp q2]; exact .inl List.mem_cons_self
  rcases key ts [[]] (by simp) g hg z hz with q | ⟨g', hg', hz'⟩
  · exact q
  · rw [List.mem_singleton.mp hg'] at hz'; cases hz'
theorem splitAt_glen {w : Str} {ts g : List Str} (hg : g ∈ splitAt w ts) : g.length ≤ ts.length := by
  have key : ∀ (ts : List Str) (gs : List (List Str)) (n : Nat), gs ≠ [] → (∀ g ∈ gs, g.length ≤ n) → ∀ g ∈ ts.foldl (stepG w) gs, g.length ≤ n + ts.length := by
    intro ts
    induction ts with
    | nil => exact fun gs n _ hn g hg => hn g hg
    | cons t ts ih =>
      intro gs n h hn g hg
      have := ih (stepG w gs t) (n + 1) (stepG_ne w gs t) (fun g' hg' => by
        unfold stepG at hg'
        split at hg'
        · rcases List.mem_append.mp hg' with q | q
          · have := hn g' q; omega
          · rw [List.mem_singleton.mp q]; exact Nat.zero_le _
        · rcases List.mem_append.mp hg' with q | q
          · have := hn g' ((List.dropLast_sublist gs).subset q); omega
          · rw [List.mem_singleton.mp q, List.length_append]
            have := hn (gs.getLastD []) (lastD_mem h)
            show (gs.getLastD []).length + 1 ≤ n + 1
            omega) g hg
      rw [List.length_cons]
      omega
  have := key ts [[]] 0 (by simp) (fun g h => by rw [List.mem_singleton.mp h]; exact Nat.zero_le _) g hg
  omega
end Dr

set_option Elab.async false
set_option linter.all false
set_option maxRecDepth 100000
set_option maxHeartbeats 8000000
set_option pp.maxSteps 500
/-! Doors: tokens in groups, kinds in a row. -/
namespace Dr
open PySem L2 Cs
/-- lists of texts in a row -/
def GrAt (H : Hp) (as : List V) (gs : List (List Str)) : Prop := Paired (fun (x : V) (g : List Str) => ∃ a, x = .ref a ∧ H a = some (.lst (g.map V.str))) as gs
theorem GrAt.same {H H' : Hp} {as : List V} {gs : List (List Str)} (s : Same H H') (h : GrAt H as gs) : GrAt H' as gs := L2.Paired.mapP h fun _ _ ⟨a, e, q⟩ => ⟨a, e, s _ _ q⟩
theorem Same.noneN {H H' : Hp} {q : Addr} (s : Same H H') (h : H' q = none) : H q = none := by
  cases e : H q with
  | none => rfl
  | some o => rw [s _ _ e] at h; cases h
theorem Same.updN {H H' : Hp} {q : Addr} {o : HO} (s : Same H H') (h : H q = none) : Same H (L2.upd H' q o) := fun b u e => by
  rw [upd_ne (ne_of_none e h)]
  exact s _ _ e
section
variable {α β : Type} {R R' : α → β → Prop}
theorem paired_memL {xs : List α} {ys : List β} (h : Paired R xs ys) {x : α} (hx : x ∈ xs) : ∃ y, y ∈ ys ∧ R x y := by
  induction h with
  | nil => cases hx
  | cons r _ ih =>
    rcases List.mem_cons.mp hx with q | q
    · subst q; exact ⟨_, List.mem_cons_self, r⟩
    · obtain ⟨y, h1, h2⟩ := ih q
      exact ⟨y, List.mem_cons_of_mem _ h1, h2⟩
theorem paired_mapM {xs : List α} {ys : List β} (h : Paired R xs ys) (k : ∀ x ∈ xs, ∀ y, R x y → R' x y) : Paired R' xs ys := by
  induction h with
  | nil => exact .nil
  | cons r _ ih => exact .cons (k _ List.mem_cons_self _ r) (ih fun x hx => k x (List.mem_cons_of_mem _ hx))
theorem paired_snoc {xs : List α} {ys : List β} {x : α} {y : β} (h : Paired R xs ys) (r : R x y) : Paired R (xs ++ [x]) (ys ++ [y]) := by
  induction h with
  | nil => exact .cons r .nil
  | cons r' _ ih => exact .cons r' ih
theorem paired_snoc_inv {xs : List α} {x : α} {ys : List β} (h : Paired R (xs ++ [x]) ys) : ∃ ys0 y, ys = ys0 ++ [y] ∧ Paired R xs ys0 ∧ R x y := by
  induction xs generalizing ys with
  | nil =>
    cases h with
    | cons r t => cases t; exact ⟨[], _, rfl, .nil, r⟩
  | cons z xs ih =>
    cases h with
    | cons r t =>
      obtain ⟨ys0, y, e, h1, h2⟩ := ih t
      exact ⟨_ :: ys0, y, by rw [e]; rfl, .cons r h1, h2⟩
theorem paired_get {xs : List α} {ys : List β} (h : Paired R xs ys) {i : Nat} {x : α} (e : xs[i]? = some x) : ∃ y, ys[i]? = some y ∧ R x y := by
  induction h generalizing i with
  | nil => cases e
  | cons hx _ ih =>
    cases i with
    | zero => cases e; exact ⟨_, rfl, hx⟩
    | succ i => exact ih e
end
def readKinds (b : Str) (ts : List Str) : Option (List Str) := if (decide (ts.length % 2 = 1) && (ods ts).all fun z => decide (z = b)) && ((evs ts).all kindB && decide (evs ts).Nodup) then some (evs ts) else none
theorem readKinds_kind {b : Str} {ts ks : List Str} (h : readKinds b ts = some ks) : ks = evs ts ∧ ks.Nodup ∧ (∀ z ∈ ks, kindB z = true) ∧ ts.length % 2 = 1 := by
  unfold readKinds at h
  split at h
  · next c =>
    cases h
    simp only [Bool.and_eq_true, decide_eq_true_eq, List.all_eq_true] at c
    exact ⟨rfl, c.2.2, c.2.1, c.1.1⟩
  · cases h
section
variable {P : Program} {w : World} {K : PySem.W.Frag} {mg : Str → Option Value} {base : Heap}
def spSplitAt : Sp := fun vs H Q _ => ∃ (a : Addr) (b : Str) (zs : List Str), vs = [.ref a, .str b] ∧ H a = some (.lst (zs.map V.str)) ∧ zs.length ≤ 160 ∧ ∀ (q : Addr) (H' : Hp) (as : List V), H q = none → Same H H' → H' q = some (.lst as) → GrAt H' as (splitAt b zs) → Q (.ref q) H'
theorem ok_split_at {f : Addr} {fd : FuncData} (F : Fun K "split_at" "split_at" s_split_at f fd) (g : Bi mg) : FnOk P w K mg base CX0 1 f fd ["tokens", "word"] spSplitAt := by
  refine F.ok sc_split_at (fun vs H Q E h => ?_) (fun cdv A outer s H vs Q E hr h => ?_)
  · obtain ⟨_, _, _, rfl, _⟩ := h
    rfl
  · obtain ⟨a, b, zs, rfl, ha, hl, k⟩ := h
    refine ⟨_, (pss_cons (ps_set (i := 2) sc_split_at.nd rfl (Or.inl rfl) (pe_lst (pa_cons (pe_lst pa_nil) pa_nil)))
      (pss_cons (ps_for PassesOwn.never rfl (pi_list (pv 0)) (pg_name (i := 3) sc_split_at.nd rfl (Or.inl rfl)) (pss_one (ps_if (pt_cmpR op_eq (pv 3) (pv 1) (nomark _)) (pss_one (ps_expr (pe_bm PySem.F.plainAttrs_list PySem.F.slot_list_append PySem.F.type_list_append mt_append (pv 2) (pa_cons (pe_lst pa_nil) pa_nil)))) (pss_one (ps_expr (pe_bm PySem.F.plainAttrs_list PySem.F.slot_list_append PySem.F.type_list_append mt_append (pe_ix ix_list (pv 2) (pe_un un_neg pe_int) (fun _ _ => rfl)) (pa_cons (pv 3) pa_nil)))))))
      (pss_one (ps_ret (pv 2))))), ?_⟩
    refine ⟨Nat.zero_le _, fun a0 ha0 => ⟨by show 1 ≤ sizeLine; decide, fun G hG => ?_⟩⟩
    have nG : G ≠ a0 := fun e => by rw [e, upd_same] at hG; cases hG
    -- the groups so far: all new, the outer list apart from the inner ones
    refine ⟨_, rfl, a, rfl, ⟨_, SqL.of (xs := zs.map V.str) ?_⟩, for_list (K := K) (a := a) (xs := zs.map V.str) (fun i σ H' => ∃ (as : List Addr) (x3 : Option V), σ = [some (.ref a), some (.str b), some (.ref G), x3] ∧ Same H H' ∧ H G = none ∧ (∀ x ∈ as, H x = none ∧ x ≠ G) ∧ as.Nodup ∧ H' G = some (.lst (as.map V.ref)) ∧
      Paired (fun (x : Addr) (g : List Str) => H' x = some (.lst (g.map V.str))) as (splitAt b (zs.take i))) ⟨[a0], _, rfl, (Same.new ha0).trans (Same.new hG), (Same.new ha0).free hG, ?_, by simp, upd_same, ?_⟩ (fun i σ H' _ ⟨_, _, _, h, _⟩ => SqL.of (h _ _ ha)) ?_ ?_⟩
    · exact Same.new hG _ _ (Same.new ha0 _ _ ha)
    · intro x hx
      rw [List.mem_singleton.mp hx]
      exact ⟨ha0, nG.symm⟩
    · exact .cons (by rw [upd_ne nG.symm]; exact upd_same) .nil
    · rintro i x σ H' hx ⟨as, x3, rfl, s', hGn, hnew, hnd, gG, hP⟩
      rw [List.getElem?_map] at hx
      cases e : zs[i]? with
      | none => rw [e] at hx; cases hx
      | some z =>
        rw [e] at hx
        obtain rfl := Option.some.inj hx
        have et : zs.take (i + 1) = zs.take i ++ [z] := by rw [List.take_succ, e]; rfl
        have hal : as.length ≤ 161 := by
          have h1 := hP.length
          have h2 := splitAt_len b (zs.take i)
          rw [List.length_take] at h2
          omega
        have hane : as ≠ [] := fun q => by
          subst q
          cases hs : splitAt b (zs.take i) with
          | nil => exact splitAt_ne _ _ hs
          | cons _ _ => rw [hs] at hP; cases hP
        refine ⟨_, rfl, _, rfl, rfl, _, rfl, ite2 (fun c => ?_) (fun c => ?_)⟩
        · have hz : z = b := V.str.inj (of_decide_eq_true c)
          refine ⟨_, rfl, .inl ⟨rfl, _, SqL.of gG⟩, Nat.zero_le _, fun n hn => ?_⟩
          have nGn : G ≠ n := ne_of_none gG hn
          refine ⟨G, _, _, rfl, rfl, by rw [upd_ne nGn]; exact gG, by rw [List.length_map]; exact Nat.lt_of_le_of_lt hal (by decide), ?_⟩
          have hn0 : H n = none := Same.noneN s' hn
          refine ⟨as ++ [n], _, rfl, Same.updN (s'.trans (Same.new hn)) hGn, hGn, ?_, ?_, by rw [upd_same, List.map_append]; rfl, ?_⟩
          · intro x hx
            rcases List.mem_append.mp hx with q | q
            · exact hnew x q
            · rw [List.mem_singleton.mp q]; exact ⟨hn0, nGn.symm⟩
          · rw [List.nodup_append]
            refine ⟨hnd, by simp, fun x hx y hy e => ?_⟩
            rw [List.mem_singleton.mp hy] at e
            obtain ⟨g', _, hg'⟩ := paired_memL hP hx
            rw [e, hn] at hg'
            cases hg'
          · rw [et, splitAt_snoc]
            unfold stepG
            rw [if_pos hz]
            refine paired_snoc (paired_mapM hP fun x hx g hg => ?_) ?_
            · rw [upd_ne (hnew x hx).2, upd_ne (ne_of_none hg hn)]; exact hg
            · rw [upd_ne nGn.symm, upd_same]; rfl
        · have hz : ¬ z = b := fun q => c (by rw [q]; simp)
          obtain ⟨as0, x, rfl⟩ : ∃ as0 x, as = as0 ++ [x] := ⟨as.dropLast, as.getLast hane, (List.dropLast_concat_getLast hane).symm⟩
          obtain ⟨gs0, g, egs, hP0, hx⟩ := paired_snoc_inv hP
          have hnx := (hnew x (List.mem_append_right _ (List.mem_singleton.mpr rfl)))
          refine ⟨_, rfl, _, rfl, G, _, _, .ref x, rfl, rfl, SqL.of gG, (by rw [List.map_append]; exact atI_last _ _), .inl ⟨rfl, _, SqL.of hx⟩, _, rfl, x, _, _, rfl, rfl, hx, ?_, ?_⟩
          · have h1 := splitAt_glen (w := b) (ts := zs.take i) (g := g) (by rw [egs]; exact List.mem_append_right _ (List.mem_singleton.mpr rfl))
            rw [List.length_take] at h1
            rw [List.length_map]
            exact Nat.lt_of_le_of_lt (show g.length ≤ 160 by omega) (by decide)
          refine ⟨as0 ++ [x], _, rfl, Same.updN s' hnx.1, hGn, hnew, hnd, by rw [upd_ne hnx.2.symm]; exact gG, ?_⟩
          rw [et, splitAt_snoc, egs]
          unfold stepG
          rw [if_neg hz, List.dropLast_concat]
          have el : (gs0 ++ [g]).getLastD [] = g := by rw [List.getLastD_eq_getLast?, List.getLast?_concat]; rfl
          rw [el]
          refine paired_snoc (paired_mapM hP0 fun y hy g' hg => ?_) ?_
          · have nyx : y ≠ x := fun q => by
              subst q
              exact (List.nodup_append.mp hnd).2.2 y hy y (List.mem_singleton.mpr rfl) rfl
            rw [upd_ne nyx]; exact hg
          · rw [upd_same, List.map_append]; rfl
    · rintro σ H' ⟨as, x3, rfl, s', hGn, hnew, hnd, gG, hP⟩
      rw [List.length_map, List.take_length] at hP
      refine ⟨_, rfl, k G H' _ hGn s' gG ?_⟩
      unfold GrAt
      generalize splitAt b zs = gs at hP
      clear hnew hnd gG
      induction hP with
      | nil => exact .nil
      | cons h _ ih => exact .cons ⟨_, rfl, h⟩ ih
end
end Dr

set_option Elab.async false
set_option linter.all false
set_option maxRecDepth 100000
set_option maxHeartbeats 8000000
set_option pp.maxSteps 500
/-! Doors: kinds in a row. -/
namespace Dr
open PySem L2 Cs
theorem nd_back {ws zs : List Str} (hw : ws.Nodup) (hm : ∀ z, z ∈ ws ↔ z ∈ zs) (q : zs.length ≤ ws.length) : zs.Nodup := by
  induction zs generalizing ws with
  | nil => exact List.nodup_nil
  | cons z zs ih =>
    rw [List.length_cons] at q
    by_cases hz : z ∈ zs
    · have := nd_len hw (ys := zs) fun y hy => by
        rcases List.mem_cons.mp ((hm y).mp hy) with e | e
        · rw [e]; exact hz
        · exact e
      omega
    · have hzw : z ∈ ws := (hm z).mpr List.mem_cons_self
      refine List.nodup_cons.mpr ⟨hz, ih (ws := ws.erase z) (hw.erase z) (fun y => ?_) ?_⟩
      · rw [hw.mem_erase_iff, hm y, List.mem_cons]
        constructor
        · rintro ⟨a, b | b⟩
          · exact absurd b a
          · exact b
        · exact fun h => ⟨fun e => hz (e ▸ h), .inr h⟩
      · rw [List.length_erase_of_mem hzw]
        omega
section
variable {P : Program} {w : World} {K : PySem.W.Frag} {mg : Str → Option Value} {base : Heap}
def spReadKinds : Sp := fun vs H Q _ => ∃ (a : Addr) (b : Str) (zs : List Str), vs = [.ref a, .str b] ∧ H a = some (.lst (zs.map V.str)) ∧ zs.length ≤ 160 ∧ (∀ z ∈ zs, z.length ≤ 100000) ∧
  (readKinds b zs = none → ∀ H', Same H H' → Q .non H') ∧ (∀ ks, readKinds b zs = some ks → ∀ q H', Same H H' → H' q = some (.tup (ks.map V.str)) → Q (.ref q) H')
theorem ok_read_kinds {f fIk fDi : Addr} {fd fdIk fdDi : FuncData} (F : Fun K "read_kinds" "read_kinds" s_read_kinds f fd) (g : Bi mg) (FIk : Def P w K mg base CX0 2 "is_kind" ["thing"] (spIsKind K) fIk fdIk) (FDi : Def P w K mg base CX0 1 "distinct" ["words"] (spDistinct K) fDi fdDi) : FnOk P w K mg base CX0 3 f fd ["tokens", "between"] spReadKinds := by
  obtain ⟨GIk, mIk, _, bIk⟩ := id FIk
  obtain ⟨GDi, mDi, _, bDi⟩ := id FDi
  refine F.ok sc_read_kinds (fun vs H Q E h => ?_) (fun cdv A outer s H vs Q E hr h => ?_)
  · obtain ⟨_, _, _, rfl, _⟩ := h
    rfl
  · obtain ⟨a, b, zs, rfl, ha, hl, hz, k0, k1⟩ := h
    have hrIk : Room 2 _ := hr
    have hrDi : Room 1 _ := hr.mono (by decide)
    have lo := ods_len zs
    have le := evs_len zs
    refine ⟨_, (pss_cons (ps_set (i := 2) sc_read_kinds.nd rfl (Or.inl rfl) (pe_slice3 (pv 0) (po_some pe_int) po_none (po_some pe_int)))
      (pss_cons (ps_set (i := 3) sc_read_kinds.nd rfl (Or.inl rfl) (pe_and (pe_cmpR op_eq (pe_op op_mod (pe_callB call_len (by rfl) g.len PySem.boot_len (pa_cons (pv 0) pa_nil)) pe_int) pe_int (nomark _)) (pe_one (pe_callB (cr_all rfl) (by rfl) g.all (by decide +kernel) (pa_cons (pe_lc (own := [("token", 4)]) (g := gName 4) (te := (tOp _ _ _))  (by rfl) sc_read_kinds.nd (pi_list (pe_slice3 (pv 0) (po_some pe_int) po_none (po_some pe_int))) (blkOk_by (own := [("token", 4)]) (N := ["tokens", "between", "kinds", "good", "token", "kind"]) (sc := defScope s_read_kinds) (by decide +kernel)) (fun _ _ _ _ _ => (pg_name (i := 4) sc_read_kinds.nd rfl (Or.inl rfl))) (fun _ _ _ _ _ => pts_nil) (fun _ _ _ _ _ => (pe_cmpR op_eq (pv 4) (pv 1) (nomark _)))) pa_nil)))))
      (pss_cons (ps_if (PW.pt (pw_and (pt_val (pv 3)) (pw_and (pt_val (pe_callB (cr_all rfl) (by rfl) g.all (by decide +kernel) (pa_cons (pe_lc (own := [("kind", 5)]) (g := gName 5)  (by rfl) sc_read_kinds.nd (pi_list (pv 2)) (blkOk_by (own := [("kind", 5)]) (N := ["tokens", "between", "kinds", "good", "token", "kind"]) (sc := defScope s_read_kinds) (by decide +kernel)) (fun _ _ _ _ _ => (pg_name (i := 5) sc_read_kinds.nd rfl (Or.inl rfl))) (fun _ _ _ _ _ => pts_nil) (fun _ _ _ _ _ => (pe_call GIk hrIk rfl mIk FIk.kp bIk .nil pass0 (pa_cons (pv 5) pa_nil)))) pa_nil))) (pw_and1 (pt_cmpR op_eq (pe_callB call_len (by rfl) g.len PySem.boot_len (pa_cons (pe_call GDi hrDi rfl mDi FDi.kp bDi .nil pass0 (pa_cons (pv 2) pa_nil)) pa_nil)) (pe_callB call_len (by rfl) g.len PySem.boot_len (pa_cons (pv 2) pa_nil)) (nomark _)))))) (pss_one (ps_ret (pe_callTy call_tuple_of (by rfl) g.tuple (by decide +kernel) (pa_cons (pv 2) pa_nil)))) pss_nil)
      (pss_one (ps_ret pe_non))))), ?_⟩
    refine ⟨_, rfl, _, rfl, _, rfl, a, _, rfl, SqL.of ha, by decide, ?_, fun n0 hn0 => ?_⟩
    · rw [stepV_evs hl, List.length_map]
      exact Nat.le_trans (show (evs zs).length ≤ 160 by omega) (by decide)
    rw [stepV_evs hl]
    have s0 := Same.new (o := .lst ((evs zs).map V.str)) hn0
    have g0 := upd_same (H := H) (a := n0) (o := .lst ((evs zs).map V.str))
    generalize upd H n0 (.lst ((evs zs).map V.str)) = H0 at s0 g0 ⊢
    refine ⟨_, rfl, _, _, rfl, .inl ⟨_, SqL.of (s0 _ _ ha), rfl⟩, _, _, rfl, rfl, by show (0 : Int) < 2; decide, rfl, _, rfl, ?_⟩
    by_cases c1 : zs.length % 2 = 1
    case neg =>
      rw [List.length_map, decide_eq_false (show ¬ V.int ((zs.length : Int) % 2) = V.int 1 from fun q => c1 (by have := V.int.inj q; omega))]
      refine iteF ⟨_, rfl, _, rfl, iteF ?_⟩
      exact k0 (by unfold readKinds; rw [decide_eq_false c1]; rfl) _ s0
    rw [List.length_map, decide_eq_true (show V.int ((zs.length : Int) % 2) = V.int 1 by rw [show (zs.length : Int) % 2 = 1 by omega])]
    refine iteT ?_
    refine ⟨_, rfl, _, rfl, _, rfl, a, _, rfl, SqL.of (s0 _ _ ha), by decide, ?_, fun n1 hn1 => ?_⟩
    · rw [stepV_ods hl, List.length_map]
      exact Nat.le_trans (show (ods zs).length ≤ 160 by omega) (by decide)
    rw [stepV_ods hl]
    have s1 := s0.trans (Same.new (o := .lst ((ods zs).map V.str)) hn1)
    have g1 := upd_same (H := H0) (a := n1) (o := .lst ((ods zs).map V.str))
    have g0 := Same.new (o := .lst ((ods zs).map V.str)) hn1 _ _ g0
    generalize upd H0 n1 (.lst ((ods zs).map V.str)) = H1 at s1 g1 g0 ⊢
    refine ⟨n1, rfl, ⟨_, SqL.of g1⟩, fun D hD => lc_vals (ys := (ods zs).map fun z => V.bl (decide (z = b))) (by rw [List.length_map, List.length_map]) g1 hD (by rw [List.length_map]; omega) (fun _ => rfl) (fun i x y hx hy H' s' Qe qk => ?_) fun H2 s2 hD2 => ?_⟩
    · rw [List.getElem?_map] at hx hy
      cases e : (ods zs)[i]? with
      | none => rw [e] at hx; cases hx
      | some z =>
        rw [e] at hx hy
        obtain rfl := Option.some.inj hx
        obtain rfl := Option.some.inj hy
        refine ⟨_, rfl, _, rfl, rfl, ?_⟩
        have q : Qe (V.bl (decide (z = b))) H' := qk _ (Same.refl H')
        rw [show decide (z = b) = decide (V.str z = V.str b) from by congr 1; exact propext ⟨fun h => by rw [h], fun h => V.str.inj h⟩] at q
        exact q
    refine ⟨D, (ods zs).map fun z => decide (z = b), rfl, SqL.of (by rw [hD2, List.map_map]; rfl), ?_⟩
    have ea : ((ods zs).map fun z => decide (z = b)).all id = (ods zs).all fun z => decide (z = b) := by rw [List.all_map]; rfl
    rw [ea]
    have s12 := s1.trans s2
    have g0 := s2 _ _ g0
    cases c2 : (ods zs).all fun z => decide (z = b) with
    | false =>
      refine ⟨_, rfl, _, rfl, iteF ?_⟩
      exact k0 (by unfold readKinds; rw [c2, Bool.and_false, Bool.false_and]; rfl) _ s12
    | true =>
    refine ⟨_, rfl, _, rfl, iteT ?_⟩
    refine ⟨_, rfl, n0, rfl, ⟨_, SqL.of g0⟩, fun D2 hD2' => lc_vals (ys := (evs zs).map fun z => V.bl (kindB z)) (by rw [List.length_map, List.length_map]) g0 hD2' (by rw [List.length_map]; omega) (fun _ => rfl) (fun i x y hx hy H' s' Qe qk => ?_) fun H4 s4 hD4 => ?_⟩
    · rw [List.getElem?_map] at hx hy
      cases e : (evs zs)[i]? with
      | none => rw [e] at hx; cases hx
      | some z =>
        rw [e] at hx hy
        obtain rfl := Option.some.inj hx
        obtain rfl := Option.some.inj hy
        exact ⟨_, rfl, .inl ⟨z, rfl, hz z (evs_mem (List.mem_of_getElem? e)), fun H2 s2 => qk H2 s2⟩⟩
    refine ⟨D2, (evs zs).map kindB, rfl, SqL.of (by rw [hD4, List.map_map]; rfl), ?_⟩
    have eb : ((evs zs).map kindB).all id = (evs zs).all kindB := by rw [List.all_map]; rfl
    rw [eb]
    have s14 := s12.trans s4
    have g0 := s4 _ _ g0
    cases c3 : (evs zs).all kindB with
    | false =>
      refine ⟨_, rfl, iteF ?_⟩
      exact k0 (by unfold readKinds; rw [c3, Bool.false_and, Bool.and_false]; rfl) _ s14
    | true =>
    refine ⟨_, rfl, iteT ?_⟩
    refine ⟨_, rfl, n0, evs zs, rfl, SqL.of g0, by omega, fun p1 H6 ws hp1 s6 h6 ha6 hm6 hle6 => ?_⟩
    have s16 := s14.trans s6
    have g0 := s6 _ _ g0
    refine ⟨_, _, rfl, .inl ⟨_, SqL.of h6, rfl⟩, _, rfl, _, _, rfl, .inl ⟨_, SqL.of g0, rfl⟩, rfl, _, rfl, ?_⟩
    rw [List.length_map, List.length_map]
    have hlen : (evs zs).Nodup ↔ ws.length = (evs zs).length := by
      constructor
      · exact fun nd => Nat.le_antisymm hle6 (nd_len nd fun z hz => (hm6 z).mpr hz)
      · intro e
        have hnw : ws.Nodup := ha6.nodup
        exact nd_back hnw hm6 (by omega)
    by_cases c4 : (evs zs).Nodup
    · rw [decide_eq_true (show V.int (ws.length : Int) = V.int ((evs zs).length : Int) by rw [hlen.mp c4])]
      refine iteT ?_
      refine ⟨_, rfl, n0, _, rfl, .inl ⟨SqL.of g0, fun q hq => ?_⟩⟩
      refine k1 (evs zs) ?_ q _ (s16.trans (Same.new hq)) upd_same
      unfold readKinds
      rw [decide_eq_true c1, c2, c3, decide_eq_true c4]
      rfl
    · rw [decide_eq_false (show ¬ V.int (ws.length : Int) = V.int ((evs zs).length : Int) from fun q => c4 (hlen.mpr (by have := V.int.inj q; omega)))]
      refine iteF ?_
      exact k0 (by unfold readKinds; rw [decide_eq_false c4, Bool.and_false, Bool.and_false]; rfl) _ s16
end
end Dr

set_option Elab.async false
set_option linter.all false
set_option maxRecDepth 100000
set_option maxHeartbeats 8000000
set_option pp.maxSteps 500
/-! Doors: digits, tests. -/
namespace Dr
open PySem L2 Cs
def DIG : Str := "0123456789"
theorem dig_range : DIG.cps.toList = (List.range 10).map (48 + ·) := by decide +kernel
def digB (z : Str) : Bool := match z.cps.toList with
  | [c] => decide (c ∈ DIG.cps.toList)
  | _ => false
def digV (z : Str) : Int := match z.cps.toList with
  | [c] => (c : Int) - 48
  | _ => 0
theorem tx_of (z : Str) : z = ⟨z.cps.toList.toArray⟩ := by
  obtain ⟨⟨l⟩⟩ := z
  rfl
theorem digB_one {z : Str} (h : digB z = true) : ∃ d : Nat, d < 10 ∧ z = ⟨#[48 + d]⟩ ∧ digV z = (d : Int) := by
  have ez := tx_of z
  unfold digB at h
  unfold digV
  cases e : z.cps.toList with
  | nil => rw [e] at h; cases h
  | cons c r =>
    cases r with
    | cons _ _ => rw [e] at h; cases h
    | nil =>
      rw [e] at h ez
      have hc := of_decide_eq_true h
      rw [dig_range, List.mem_map] at hc
      obtain ⟨d, hd, rfl⟩ := hc
      refine ⟨d, List.mem_range.mp hd, ez, ?_⟩
      show ((48 + d : Nat) : Int) - 48 = d
      omega
theorem digB_len {z : Str} (h : z.length ≠ 1) : digB z = false := by
  have h : z.cps.toList.length ≠ 1 := by
    intro e
    exact h (by show z.cps.size = 1; rw [← Array.length_toList]; exact e)
  unfold digB
  cases e : z.cps.toList with
  | nil => rfl
  | cons c r =>
    cases r with
    | nil => rw [e] at h; exact absurd rfl h
    | cons _ _ => rfl
theorem dig_int : ∀ d : Nat, d < 10 → PySem.intText? ⟨#[48 + d]⟩ = some (d : Int) := by decide +kernel
theorem dig_text {z : Str} (h : digB z = true) : PySem.intText? z = some (digV z) ∧ z.length ≤ 640 := by
  obtain ⟨d, hd, e, e2⟩ := digB_one h
  rw [e2, e]
  exact ⟨dig_int d hd, by show 1 ≤ 640; decide⟩
/-! == of lists of texts -/
def plS (zs : List Str) : PyData := .list (zs.map .str)
theorem strs_dpS {K : PySem.W.Frag} {H : Hp} : ∀ zs : List Str, DpAll K H (zs.map V.str) (zs.map .str)
  | [] => .nil
  | z :: zs => .cons (.str z) (strs_dpS zs)
theorem eqvS (a b : Str) : PyData.eqv (.str a) (.str b) = decide (a = b) := by
  by_cases e : a = b
  · subst e; simp [PyData.eqv]
  · simp [PyData.eqv, e]
theorem eqvAllS : ∀ l m : List Str, PyData.eqvAll (l.map .str) (m.map .str) = decide (l = m)
  | [], [] => by simp [PyData.eqvAll]
  | [], _ :: _ => by simp [PyData.eqvAll]
  | _ :: _, [] => by simp [PyData.eqvAll]
  | a :: l, b :: m => by
    rw [List.map_cons, List.map_cons, PyData.eqvAll, eqvS, eqvAllS l m]
    by_cases e : a = b
    · subst e; simp
    · simp [e]
theorem plS_eqv (a b : List Str) : PyData.eqv (plS a) (plS b) = decide (a = b) := by
  unfold plS
  rw [PyData.eqv, eqvAllS]
theorem canS : ∀ {zs : List Str}, (∀ z ∈ zs, PyData.strOk z = true) → PyData.canLayAll0 (zs.map .str) = true
  | [], _ => rfl
  | z :: zs, h => by
    rw [List.map_cons, PyData.canLayAll0, canS fun y m => h y (List.mem_cons_of_mem _ m), PyData.canLay0, h z List.mem_cons_self]
    rfl
theorem depS : ∀ zs : List Str, PyData.depthAll (zs.map .str) = 0
  | [] => rfl
  | z :: zs => by
    rw [List.map_cons, PyData.depthAll, depS zs, PyData.depth]
    rfl
theorem plS_shaped {zs : List Str} (h : ∀ z ∈ zs, PyData.strOk z = true) : SeqAt.shaped (plS zs) = true := by
  unfold SeqAt.shaped plS
  rw [Bool.and_eq_true]
  refine ⟨by rw [PyData.canLay0]; exact canS h, decide_eq_true ?_⟩
  rw [PyData.depth, depS]
  decide
theorem eqS_go {K : PySem.W.Frag} {H : Hp} {x y : Addr} {zs ws : List Str} {Q : VK} (hx : H x = some (.lst (zs.map V.str))) (hy : H y = some (.lst (ws.map V.str))) (hz : ∀ z ∈ zs, PyData.strOk z = true) (hw : ∀ z ∈ ws, PyData.strOk z = true) (k : Q (.bl (decide (zs = ws))) H) : rEqD K (.ref x) (.ref y) H Q :=
  ⟨plS zs, plS ws, .lst (SqL.of hx) (strs_dpS _), .lst (SqL.of hy) (strs_dpS _), plS_shaped hz, plS_shaped hw, by rw [plS_eqv]; exact k⟩
/-! slices -/
theorem cut_first (zs : List Str) (n : Nat) : cutV (zs.map V.str) none (some (n : Int)) = (zs.take n).map V.str := by
  unfold cutV
  rw [HT.sIx_none, HT.sIx_nat, List.drop_zero, Nat.sub_zero, List.length_map, List.map_take]
  by_cases c : n ≤ zs.length
  · rw [Nat.min_eq_left c]
  · rw [Nat.min_eq_right (by omega), List.take_of_length_le (by rw [List.length_map]; exact Nat.le_refl _), List.take_of_length_le (by rw [List.length_map]; omega)]
theorem cut_rest (zs : List Str) (n : Nat) : cutV (zs.map V.str) (some (n : Int)) none = (zs.drop n).map V.str := by
  unfold cutV
  rw [HT.sIx_none, HT.sIx_nat, List.length_map, List.map_drop]
  by_cases c : n ≤ zs.length
  · rw [Nat.min_eq_left c, List.take_of_length_le (by rw [List.length_drop, List.length_map]; exact Nat.le_refl _)]
  · rw [Nat.min_eq_right (by omega), List.drop_eq_nil_of_le (by rw [List.length_map]; exact Nat.le_refl _), List.drop_eq_nil_of_le (by rw [List.length_map]; omega)]
    simp
theorem cut_two (m : List V) (x y : V) : cutV (m ++ [x, y]) none (some (-2)) = m := by
  unfold cutV
  have hl : (m ++ [x, y]).length = m.length + 2 := by simp
  have e : HT.sIx (m ++ [x, y]).length (m ++ [x, y]).length (some (-2)) = m.length := by
    show (if (-2 : Int) < 0 then ((-2 : Int) + (((m ++ [x, y]).length : Nat) : Int)).toNat else min (-2 : Int).toNat (m ++ [x, y]).length) = m.length
    rw [if_pos (by decide), hl]
    omega
  rw [HT.sIx_none, List.drop_zero, Nat.sub_zero]
  rw [e, List.take_left]
theorem at_two (l : List V) (c d : V) : atI (l ++ [c, d]) (-2) = some c := by
  have hl : (l ++ [c, d]).length = l.length + 2 := by simp
  have e : ixN (l ++ [c, d]).length (-2) = some l.length := by
    unfold ixN
    rw [hl, if_neg (by decide), if_pos (by omega)]
    congr 1
    omega
  unfold atI
  rw [e]
  simp
theorem at_one (l : List V) (c d : V) : atI (l ++ [c, d]) (-1) = some d := by
  rw [show l ++ [c, d] = (l ++ [c]) ++ [d] by simp]
  exact atI_last _ _
theorem two_back {zs : List Str} (h : 2 ≤ zs.length) : ∃ m s d, zs = m ++ [s, d] := by
  have n1 : zs ≠ [] := fun e => by rw [e] at h; exact absurd h (by decide)
  have e1 := List.dropLast_concat_getLast n1
  have n2 : zs.dropLast ≠ [] := fun e => by
    have : zs.dropLast.length = 0 := by rw [e]; rfl
    rw [List.length_dropLast] at this
    omega
  have e2 := List.dropLast_concat_getLast n2
  refine ⟨zs.dropLast.dropLast, zs.dropLast.getLast n2, zs.getLast n1, ?_⟩
  conv => lhs; rw [← e1, ← e2]
  simp
theorem inV_strs (z : Str) : ∀ zs : List Str, inV (.str z) (zs.map V.str) = decide (z ∈ zs)
  | [] => by simp [inV]
  | y :: ys => by
    have ih := inV_strs z ys
    unfold inV at ih ⊢
    rw [List.map_cons, List.any_cons, ih]
    have e : eqV (.str y) (.str z) = decide (y = z) := by
      by_cases c : y = z
      · subst c; simp [eqV]
      · rw [decide_eq_false c]
        simp [eqV, c]
    rw [e]
    by_cases c : y = z
    · subst c; simp
    · have c' : ¬ z = y := fun q => c q.symm
      simp [c, c']
/-! tokens -/
structure TokS (zs : List Str) : Prop where
  few : zs.length ≤ 160
  len : ∀ z ∈ zs, z.length ≤ 100000
  ok : ∀ z ∈ zs, PyData.strOk z = true
theorem TokS.sub {zs ws : List Str} (h : TokS zs) (k : ∀ z ∈ ws, z ∈ zs) (l : ws.length ≤ zs.length) : TokS ws := ⟨Nat.le_trans l h.few, fun z m => h.len z (k z m), fun z m => h.ok z (k z m)⟩
def SIGNS : List Str := ["<", "<=", "=", "!=", ">=", ">"]
def CROSS : List Str := ["give", "take", "join"]
inductive TestD where
  | row (ks : List Str)
  | sum (o : Bool) (ks : List Str) (sg : Str) (n : Int)
def readSum (o : Bool) (rs : List Str) : Option TestD := if rs.length < 3 then none else if (rs.dropLast.getLastD Str.empty) ∈ SIGNS ∧ digB (rs.getLastD Str.empty) = true then (readKinds "+" rs.dropLast.dropLast).map fun ks => .sum o ks (rs.dropLast.getLastD Str.empty) (digV (rs.getLastD Str.empty)) else none
def readTest (ts : List Str) : Option TestD := if ts.take 1 = [(("row" : String) : Str)] then (readKinds "or" (ts.drop 1)).map .row else if ts.take 1 = [(("other" : String) : Str)] then readSum true (ts.drop 1) else readSum false ts
def TestAt (H : Hp) (v : V) : TestD → Prop
  | .row ks => ∃ p q, v = .ref p ∧ H p = some (.tup [.str "row", .ref q]) ∧ H q = some (.tup (ks.map V.str))
  | .sum o ks sg n => ∃ p q, v = .ref p ∧ H p = some (.tup [.str "sum", .bl o, .ref q, .str sg, .int n]) ∧ H q = some (.tup (ks.map V.str))
/-- tuples stay -/
def TupK (H H' : Hp) : Prop := ∀ a xs, H a = some (.tup xs) → H' a = some (.tup xs)
theorem TestAt.keep {H H' : Hp} {v : V} {t : TestD} (k : TupK H H') (h : TestAt H v t) : TestAt H' v t := by
  cases t with
  | row ks => obtain ⟨p, q, e, h1, h2⟩ := h; exact ⟨p, q, e, k _ _ h1, k _ _ h2⟩
  | sum o ks sg n => obtain ⟨p, q, e, h1, h2⟩ := h; exact ⟨p, q, e, k _ _ h1, k _ _ h2⟩
theorem TupK.of {H H' : Hp} (s : Same H H') : TupK H H' := fun _ _ h => s _ _ h
theorem TestAt.same {H H' : Hp} {v : V} {t : TestD} (s : Same H H') (h : TestAt H v t) : TestAt H' v t := h.keep (.of s)
theorem last2 (m : List Str) (s d : Str) : (m ++ [s, d]).getLastD Str.empty = d ∧ (m ++ [s, d]).dropLast.getLastD Str.empty = s ∧ (m ++ [s, d]).dropLast.dropLast = m := by
  have e : m ++ [s, d] = (m ++ [s]) ++ [d] := by simp
  rw [e, List.dropLast_concat, List.dropLast_concat]
  refine ⟨?_, ?_, rfl⟩
  · rw [List.getLastD_eq_getLast?, List.getLast?_concat]; rfl
  · rw [List.getLastD_eq_getLast?, List.getLast?_concat]; rfl
section
variable {P : Program} {w : World} {K : PySem.W.Frag} {mg : Str → Option Value} {base : Heap}
def spIsDigit : Sp := fun vs H Q _ => ∃ z : Str, vs = [.str z] ∧ z.length ≤ 100000 ∧ Q (.bl (digB z)) H
theorem ok_is_digit {f : Addr} {fd : FuncData} {tk : PySem.Tok} (F : Fun K "is_digit" "is_digit" s_is_digit f fd) (g : Bi mg) (mDIG : mg "DIGITS" = some (.str DIG tk)) : FnOk P w K mg base CX0 1 f fd ["text"] spIsDigit := by
  refine F.ok sc_is_digit (fun vs H Q E h => ?_) (fun cdv A outer s H vs Q E hr h => ?_)
  · obtain ⟨_, rfl, _⟩ := h
    rfl
  · obtain ⟨z, rfl, hz, k⟩ := h
    refine ⟨_, (pss_one (ps_ret (pe_and (pe_cmpR op_eq (pe_callB call_len_str (by rfl) g.len PySem.boot_len (pa_cons (pv 0) pa_nil)) pe_int (nomark _)) (pe_one (pe_cmpR op_in_sign (pv 0) (pe_glob (v := .str DIG) rfl mDIG ⟨_, rfl⟩) (by rfl)))))), ?_⟩
    have hz' : z.length ≤ sizeLine := Nat.le_trans hz (by decide)
    by_cases e : z.length = 1
    · obtain ⟨c, rfl⟩ : ∃ c, z = ⟨#[c]⟩ := by
        have ez := tx_of z
        have hl : z.cps.toList.length = 1 := by rw [Array.length_toList]; exact e
        obtain ⟨c, ec⟩ := List.length_eq_one_iff.mp hl
        exact ⟨c, by rw [ez, ec]⟩
      refine ⟨_, rfl, _, rfl, hz', rfl, true, congrArg V.bl (decide_eq_true rfl), iteT ?_⟩
      exact ⟨_, rfl, _, _, rfl, rfl, k⟩
    · rw [digB_len e] at k
      refine ⟨_, rfl, _, rfl, hz', rfl, false, congrArg V.bl (decide_eq_false fun q => e (by have := V.int.inj q; omega)), iteF k⟩
def spReadTest : Sp := fun vs H Q _ => ∃ (a : Addr) (zs : List Str), vs = [.ref a] ∧ H a = some (.lst (zs.map V.str)) ∧ TokS zs ∧ (readTest zs = none → ∀ H', Same H H' → Q .non H') ∧ (∀ t, readTest zs = some t → ∀ v H', Same H H' → TestAt H' v t → Q v H')
theorem ok_read_test {f fRk fDg rS : Addr} {fd fdRk fdDg : FuncData} (F : Fun K "read_test" "read_test" s_read_test f fd) (g : Bi mg) (FRk : Def P w K mg base CX0 3 "read_kinds" ["tokens", "between"] spReadKinds fRk fdRk) (FDg : Def P w K mg base CX0 1 "is_digit" ["text"] spIsDigit fDg fdDg)
    (mSG : mg "SIGNS" = some (.ref rS)) (hSG : ∀ H : Hp, SqT K H rS (SIGNS.map V.str)) : FnOk P w K mg base CX0 4 f fd ["tokens"] spReadTest := by
  obtain ⟨GRk, mRk, _, bRk⟩ := id FRk
  obtain ⟨GDg, mDg, _, bDg⟩ := id FDg
  refine F.ok sc_read_test (fun vs H Q E h => ?_) (fun cdv A outer s H vs Q E hr h => ?_)
  · obtain ⟨_, _, rfl, _⟩ := h
    rfl
  · obtain ⟨a, zs, rfl, ha, ht, k0, k1⟩ := h
    have hrRk : Room 3 _ := hr
    have hrDg : Room 1 _ := hr.mono (by decide)
    have so_row : ∀ z ∈ [(("row" : String) : Str)], PyData.strOk z = true := fun z hz => by rw [List.mem_singleton.mp hz]; decide +kernel
    have so_oth : ∀ z ∈ [(("other" : String) : Str)], PyData.strOk z = true := fun z hz => by rw [List.mem_singleton.mp hz]; decide +kernel
    refine ⟨_, (pss_cons (ps_if (pt_cmpR (op_eqD hr.units) (pe_slice sl_list (pv 0) po_none (po_some pe_int)) (pe_lst (pa_cons pe_str pa_nil)) (nomark _)) (pss_cons (ps_set (i := 1) sc_read_test.nd rfl (Or.inl rfl) (pe_call GRk hrRk rfl mRk FRk.kp bRk .nil pass0 (pa_cons (pe_slice sl_list (pv 0) (po_some pe_int) po_none) (pa_cons pe_str pa_nil))))
      (pss_one (ps_ret (pe_ifExp (pt_cmpR op_isN (pv 1) pe_non (nomark _)) pe_non (pe_tup (pa_cons pe_str (pa_cons (pv 1) pa_nil))))))) pss_nil)
      (pss_cons (ps_set (i := 2) sc_read_test.nd rfl (Or.inl rfl) (pe_cmpR (op_eqD hr.units) (pe_slice sl_list (pv 0) po_none (po_some pe_int)) (pe_lst (pa_cons pe_str pa_nil)) (nomark _)))
      (C8.pss_cut (ps_set (i := 3) sc_read_test.nd rfl (Or.inl rfl) (pe_ifExp (pt_val (pv 2)) (pe_slice sl_list (pv 0) (po_some pe_int) po_none) (pv 0)))
      (pss_cons (ps_if (PW.pt (pw_or (pt_cmpR op_lt (pe_callB call_len (by rfl) g.len PySem.boot_len (pa_cons (pv 3) pa_nil)) pe_int (nomark _)) (pw_or (pt_cmpR op_notIn_seq (pe_ix ix_list (pv 3) (pe_un un_neg pe_int) (fun _ _ => rfl)) (pe_glob (v := .ref rS) rfl mSG rfl) (by rfl)) (pw_or1 (pt_not (pt_val (pe_call GDg hrDg rfl mDg FDg.kp bDg .nil pass0 (pa_cons (pe_ix ix_list (pv 3) (pe_un un_neg pe_int) (fun _ _ => rfl)) pa_nil)))))))) (pss_one (ps_ret pe_non)) pss_nil)
      (pss_cons (ps_set (i := 1) sc_read_test.nd rfl (Or.inl rfl) (pe_call GRk hrRk rfl mRk FRk.kp bRk .nil pass0 (pa_cons (pe_slice sl_list (pv 3) po_none (po_some (pe_un un_neg pe_int))) (pa_cons pe_str pa_nil))))
      (pss_one (ps_ret (pe_ifExp (pt_cmpR op_isN (pv 1) pe_non (nomark _)) pe_non (pe_tup (pa_cons pe_str (pa_cons (pv 2) (pa_cons (pv 1) (pa_cons (pe_ix ix_list (pv 3) (pe_un un_neg pe_int) (fun _ _ => rfl)) (pa_cons (pe_callTy call_int_str (by rfl) g.int (by decide +kernel) (pa_cons (pe_ix ix_list (pv 3) (pe_un un_neg pe_int) (fun _ _ => rfl)) pa_nil)) pa_nil)))))))))))))), ?_⟩
    -- tokens[:1] == ['row']
    refine ⟨_, rfl, _, rfl, a, _, rfl, SqL.of ha, fun p1 hp1 => ⟨by show 1 ≤ sizeLine; decide, fun p2 hp2 => ?_⟩⟩
    have s1 := Same.new (o := .lst (cutV (zs.map V.str) none (some 1))) hp1
    have e1 := upd_same (H := H) (a := p1) (o := .lst (cutV (zs.map V.str) none (some 1)))
    rw [show cutV (zs.map V.str) none (some 1) = (zs.take 1).map V.str from cut_first zs 1] at s1 e1 hp2 ⊢
    generalize upd H p1 (.lst ((zs.take 1).map V.str)) = H1 at s1 e1 hp2 ⊢
    have s2 := s1.trans (Same.new (o := .lst [.str "row"]) hp2)
    have e1 := Same.new (o := .lst [.str "row"]) hp2 _ _ e1
    have e2 := upd_same (H := H1) (a := p2) (o := .lst [.str "row"])
    generalize upd H1 p2 (.lst [.str "row"]) = H2 at s2 e1 e2 ⊢
    have htk : ∀ z ∈ zs.take 1, PyData.strOk z = true := fun z hz => ht.ok z (List.mem_of_mem_take hz)
    refine eqS_go (ws := ["row"]) e1 e2 htk so_row ⟨_, rfl, ?_⟩
    have htd : TokS (zs.drop 1) := ht.sub (fun z hz => List.mem_of_mem_drop hz) (by rw [List.length_drop]; omega)
    by_cases c1 : zs.take 1 = [(("row" : String) : Str)]
    · rw [decide_eq_true c1]
      refine iteT ?_
      have er : readTest zs = (readKinds "or" (zs.drop 1)).map .row := by unfold readTest; rw [if_pos c1]
      refine ⟨_, rfl, _, rfl, a, _, rfl, SqL.of (s2 _ _ ha), fun p3 hp3 => ?_⟩
      have s3 := s2.trans (Same.new (o := .lst (cutV (zs.map V.str) (some 1) none)) hp3)
      have e3 := upd_same (H := H2) (a := p3) (o := .lst (cutV (zs.map V.str) (some 1) none))
      rw [show cutV (zs.map V.str) (some 1) none = (zs.drop 1).map V.str from cut_rest zs 1] at s3 e3 ⊢
      generalize upd H2 p3 (.lst ((zs.drop 1).map V.str)) = H3 at s3 e3 ⊢
      refine ⟨p3, "or", zs.drop 1, rfl, e3, htd.few, htd.len, fun hn H4 s4 => ?_, fun ks hk q H4 s4 hq => ?_⟩
      · refine ⟨_, rfl, rfl, true, congrArg V.bl (decide_eq_true rfl), iteT ?_⟩
        exact k0 (by rw [er, hn]; rfl) _ (s3.trans s4)
      · refine ⟨_, rfl, rfl, false, congrArg V.bl (decide_eq_false fun z => by cases z), iteF ?_⟩
        refine ⟨_, rfl, by show 2 ≤ sizeLine; decide, fun t htt => ?_⟩
        refine k1 (.row ks) (by rw [er, hk]; rfl) _ _ ((s3.trans s4).trans (Same.new htt)) ⟨t, q, rfl, upd_same, Same.new htt _ _ hq⟩
    rw [decide_eq_false c1]
    refine iteF ?_
    refine ⟨_, rfl, _, rfl, a, _, rfl, SqL.of (s2 _ _ ha), fun p3 hp3 => ⟨by show 1 ≤ sizeLine; decide, fun p4 hp4 => ?_⟩⟩
    have s3 := s2.trans (Same.new (o := .lst (cutV (zs.map V.str) none (some 1))) hp3)
    have e3 := upd_same (H := H2) (a := p3) (o := .lst (cutV (zs.map V.str) none (some 1)))
    rw [show cutV (zs.map V.str) none (some 1) = (zs.take 1).map V.str from cut_first zs 1] at s3 e3 hp4 ⊢
    generalize upd H2 p3 (.lst ((zs.take 1).map V.str)) = H3 at s3 e3 hp4 ⊢
    have s4 := s3.trans (Same.new (o := .lst [.str "other"]) hp4)
    have e3 := Same.new (o := .lst [.str "other"]) hp4 _ _ e3
    have e4 := upd_same (H := H3) (a := p4) (o := .lst [.str "other"])
    generalize upd H3 p4 (.lst [.str "other"]) = H4 at s4 e3 e4 ⊢
    refine eqS_go (ws := ["other"]) e3 e4 htk so_oth ?_
    generalize eo : decide (zs.take 1 = [(("other" : String) : Str)]) = o
    refine ⟨fun σ2 H5 => ∃ (r : Addr) (rs : List Str), σ2 = [some (.ref a), none, some (.bl o), some (.ref r)] ∧ H5 r = some (.lst (rs.map V.str)) ∧ TokS rs ∧ readTest zs = readSum o rs ∧ Same H H5, ?_, ?_⟩
    · cases o with
      | true =>
        have c2 := of_decide_eq_true eo
        refine ⟨_, rfl, _, rfl, iteT ?_⟩
        refine ⟨_, rfl, _, rfl, a, _, rfl, SqL.of (s4 _ _ ha), fun p5 hp5 => ?_⟩
        have s5 := s4.trans (Same.new (o := .lst (cutV (zs.map V.str) (some 1) none)) hp5)
        refine ⟨p5, zs.drop 1, rfl, ?_, htd, ?_, s5⟩
        · rw [show cutV (zs.map V.str) (some 1) none = (zs.drop 1).map V.str from cut_rest zs 1]
          exact upd_same
        · unfold readTest
          rw [if_neg c1, if_pos c2]
      | false =>
        have c2 := of_decide_eq_false eo
        refine ⟨_, rfl, _, rfl, iteF ?_⟩
        refine ⟨_, rfl, a, zs, rfl, s4 _ _ ha, ht, ?_, s4⟩
        unfold readTest
        rw [if_neg c1, if_neg c2]
    rintro σ2 H5 ⟨r, rs, rfl, hrs, hts, er, s5⟩
    refine ⟨_, rfl, _, _, rfl, .inl ⟨_, SqL.of hrs, rfl⟩, _, _, rfl, rfl, ?_⟩
    by_cases c3 : rs.length < 3
    · refine ⟨true, congrArg V.bl (decide_eq_true (by rw [List.length_map]; omega)), iteT (iteT ?_)⟩
      exact k0 (by rw [er]; unfold readSum; rw [if_pos c3]) _ s5
    refine ⟨false, congrArg V.bl (decide_eq_false (by rw [List.length_map]; omega)), iteF ?_⟩
    obtain ⟨m, sg, d, rfl⟩ := two_back (zs := rs) (by omega)
    obtain ⟨l1, l2, l3⟩ := last2 m sg d
    have em : (m ++ [sg, d]).map V.str = m.map V.str ++ [.str sg, .str d] := by rw [List.map_append]; rfl
    rw [em] at hrs
    refine ⟨_, rfl, _, rfl, r, _, -2, _, rfl, rfl, SqL.of hrs, at_two _ _ _, ?_⟩
    refine ⟨rS, SIGNS.map V.str, rfl, .inr (hSG _), rfl, by decide, ?_⟩
    refine ⟨_, rfl, ?_⟩
    rw [inV_strs]
    by_cases c4 : ¬ sg ∈ SIGNS
    · rw [decide_eq_false c4]
      refine iteT (iteT ?_)
      exact k0 (by rw [er]; unfold readSum; rw [if_neg c3, l2, if_neg (fun q => c4 q.1)]) _ s5
    have c4 := Decidable.not_not.mp c4
    rw [decide_eq_true c4]
    refine iteF ?_
    refine ⟨_, rfl, _, rfl, r, _, -1, _, rfl, rfl, SqL.of hrs, at_one _ _ _, ?_⟩
    refine ⟨d, rfl, hts.len d (by simp), ?_⟩
    refine ⟨_, rfl, ?_⟩
    by_cases c5 : digB d = false
    · rw [c5]
      refine iteT ?_
      exact k0 (by rw [er]; unfold readSum; rw [if_neg c3, l1, l2, if_neg (fun q => by rw [c5] at q; cases q.2)]) _ s5
    rw [Bool.not_eq_false] at c5
    rw [c5]
    refine iteF ?_
    have er2 : readTest zs = (readKinds "+" m).map fun ks => .sum o ks sg (digV d) := by
      rw [er]; unfold readSum; rw [if_neg c3, l1, l2, l3, if_pos ⟨c4, c5⟩]
    refine ⟨_, rfl, _, rfl, _, rfl, r, _, rfl, SqL.of hrs, fun p6 hp6 => ?_⟩
    have s6 := s5.trans (Same.new (o := .lst (cutV (m.map V.str ++ [.str sg, .str d]) none (some (-2)))) hp6)
    have hrs := Same.new (o := .lst (cutV (m.map V.str ++ [.str sg, .str d]) none (some (-2)))) hp6 _ _ hrs
    have e6 := upd_same (H := H5) (a := p6) (o := .lst (cutV (m.map V.str ++ [.str sg, .str d]) none (some (-2))))
    generalize upd H5 p6 (.lst (cutV (m.map V.str ++ [.str sg, .str d]) none (some (-2)))) = H6 at s6 e6 hrs ⊢
    rw [cut_two] at e6
    have htm : TokS m := hts.sub (fun z hz => List.mem_append_left _ hz) (by simp)
    refine ⟨p6, "+", m, rfl, e6, htm.few, htm.len, fun hn H7 s7 => ?_, fun ks hk q H7 s7 hq => ?_⟩
    · refine ⟨_, rfl, rfl, true, congrArg V.bl (decide_eq_true rfl), iteT ?_⟩
      exact k0 (by rw [er2, hn]; rfl) _ (s6.trans s7)
    · refine ⟨_, rfl, rfl, false, congrArg V.bl (decide_eq_false fun z => by cases z), iteF ?_⟩
      have hrs := s7 _ _ hrs
      refine ⟨_, rfl, _, rfl, _, rfl, _, rfl, r, _, -2, _, rfl, rfl, SqL.of hrs, at_two _ _ _, ?_⟩
      refine ⟨_, rfl, _, rfl, r, _, -1, _, rfl, rfl, SqL.of hrs, at_one _ _ _, ?_⟩
      refine ⟨d, digV d, rfl, (dig_text c5).1, (dig_text c5).2, ?_⟩
      refine ⟨by show 5 ≤ sizeLine; decide, fun t htt => ?_⟩
      exact k1 (.sum o ks sg (digV d)) (by rw [er2, hk]; rfl) _ _ ((s6.trans s7).trans (Same.new htt)) ⟨t, q, rfl, upd_same, Same.new htt _ _ hq⟩
end
end Dr

set_option Elab.async false
set_option linter.all false
set_option maxRecDepth 100000
set_option maxHeartbeats 8000000
set_option pp.maxSteps 500
/-! Doors: rows of tests. -/
namespace Dr
open PySem L2 Cs
theorem TupK.lst {H : Hp} {D : Addr} {acc : List V} {o : HO} (h : H D = some (.lst acc)) : TupK H (upd H D o) := fun a xs e => by
  rw [upd_ne (fun q => by rw [q, h] at e; cases e)]
  exact e
theorem paired_lenD {α β : Type} {R : α → β → Prop} {xs : List α} {ys : List β} (h : Paired R xs ys) : xs.length = ys.length := by
  induction h with
  | nil => rfl
  | cons _ _ ih => rw [List.length_cons, List.length_cons, ih]
/-- [e for x in xs] by what the values stand for -/
theorem lc_rel {β : Type} {R : Hp → V → β → Prop} (hk : ∀ H H' v b, TupK H H' → R H v b → R H' v b) {K : PySem.W.Frag} {a : Addr} {xs : List V} {bs : List β} {j : Nat} {te : TE} {vs : List Nat} {σ : L2.St} {H1 : Hp} {D : Addr} {Qd : Hp → Prop} (hy : bs.length = xs.length) (ha : H1 a = some (.lst xs)) (hD : H1 D = none) (hl : xs.length ≤ 1000) (hw : ∀ x, wipe ((wipe σ vs).set j (some x)) vs = wipe σ vs)
    (he : ∀ (i : Nat) (x : V) (b : β), xs[i]? = some x → bs[i]? = some b → ∀ H', Same H1 H' → ∀ Qe : VK, (∀ v H'', Same H' H'' → R H'' v b → Qe v H'') → te ((wipe σ vs).set j (some x)) H' Qe)
    (k : ∀ H' ws, Same H1 H' → H' D = some (.lst ws) → Paired (R H') ws bs → Qd H') :
    ∃ W : Nat → Nat → Hp → Prop, (∃ m, W 0 m (upd H1 D (.lst []))) ∧ ∀ i m H, W i m H →
      ((Itl K a).stop i H ∧ Qd H) ∨ ((Itl K a).go i H ∧ ∃ Nx : Hp → Prop, (∀ H', Nx H' → ∃ m', m' < m ∧ W (i + 1) m' H') ∧ ∀ x H', (Itl K a).yld i H x H' → gName j x (wipe σ vs) H' fun σ2 H2 => wipe σ2 vs = wipe σ vs ∧ tYes σ2 H2 fun b H3 =>
        if b = true then te σ2 H3 fun y H4 => ∃ acc, H4 D = some (.lst acc) ∧ acc.length < sizeLine ∧ Nx (upd H4 D (.lst (acc ++ [y]))) else Nx H3) := by
  refine lc_it (walk_list (xs := xs)) (fun i H' => Same H1 H' ∧ ∃ ws, H' D = some (.lst ws) ∧ Paired (R H') ws (bs.take i)) ⟨same_new hD, [], upd_same, .nil⟩ (fun i H' _ h => SqL.of (h.1 _ _ ha)) ?_ ?_
  · rintro i x H' H2 hi ⟨s', ws, hD', hp⟩ ⟨rfl, hx⟩
    have hi2 : i < bs.length := by omega
    refine ⟨hw _, yes_of ?_⟩
    refine he i x bs[i] hx (List.getElem?_eq_getElem hi2) H2 s' _ fun v H3 s3 hr => ?_
    have hD3 := s3 _ _ hD'
    refine ⟨_, hD3, ?_, fun b o q => ?_, _, upd_same, ?_⟩
    · have := paired_lenD hp
      rw [List.length_take] at this
      exact Nat.lt_of_le_of_lt (show ws.length ≤ 1000 by omega) (by decide)
    · rw [upd_ne (ne_of_none q hD)]
      exact s3 _ _ (s' _ _ q)
    · rw [List.take_succ, List.getElem?_eq_getElem hi2]
      have t3 := TupK.lst (o := .lst (ws ++ [v])) hD3
      exact paired_snoc (L2.Paired.mapP hp fun _ _ r => hk _ _ _ _ t3 (hk _ _ _ _ (.of s3) r)) (hk _ _ _ _ t3 hr)
  · rintro H' ⟨s', ws, hD', hp⟩
    rw [← hy, List.take_length] at hp
    exact k H' ws s' hD' hp
/-- may be None -/
def OptR {β : Type} (R : Hp → V → β → Prop) : Hp → V → Option β → Prop := fun H v o => match o with
  | none => v = .non
  | some b => R H v b
theorem OptR.keep {β : Type} {R : Hp → V → β → Prop} (hk : ∀ H H' v b, TupK H H' → R H v b → R H' v b) (H H' : Hp) (v : V) (o : Option β) (k : TupK H H') (h : OptR R H v o) : OptR R H' v o := by
  cases o with
  | none => exact h
  | some b => exact hk _ _ _ _ k h
theorem opt_all {β : Type} {R : Hp → V → β → Prop} {H : Hp} : ∀ {vs : List V} {os : List (Option β)}, Paired (OptR R H) vs os → (os.all Option.isSome) = true → Paired (R H) vs (os.filterMap id)
  | _, _, .nil, _ => .nil
  | _, _, .cons (b := o) h t, e => by
    cases o with
    | none => rw [List.all_cons] at e; cases e
    | some b =>
      rw [List.all_cons, Bool.and_eq_true] at e
      exact .cons h (opt_all t e.2)
def readTests (ts : List Str) : Option (List TestD) :=
  let l := (splitAt "and" ts).map readTest
  if l.length ≤ 4 ∧ l.all Option.isSome = true then some (l.filterMap id) else none
def TestsAt (H : Hp) (v : V) (ts : List TestD) : Prop := ∃ p ws, v = .ref p ∧ H p = some (.tup ws) ∧ Paired (TestAt H) ws ts
theorem TestsAt.keep {H H' : Hp} {v : V} {ts : List TestD} (k : TupK H H') (h : TestsAt H v ts) : TestsAt H' v ts := by
  obtain ⟨p, ws, e, h1, h2⟩ := h
  exact ⟨p, ws, e, k _ _ h1, L2.Paired.mapP h2 fun _ _ r => r.keep k⟩
theorem TestAt.ne {H : Hp} {v : V} {t : TestD} (h : TestAt H v t) : v ≠ .non := by
  cases t with
  | row ks => obtain ⟨p, q, rfl, _⟩ := h; exact fun e => by cases e
  | sum o ks sg n => obtain ⟨p, q, rfl, _⟩ := h; exact fun e => by cases e
section
variable {P : Program} {w : World} {K : PySem.W.Frag} {mg : Str → Option Value} {base : Heap}
def spReadTests : Sp := fun vs H Q _ => ∃ (a : Addr) (zs : List Str), vs = [.ref a] ∧ H a = some (.lst (zs.map V.str)) ∧ TokS zs ∧ (readTests zs = none → ∀ H', Same H H' → Q .non H') ∧ (∀ ts, readTests zs = some ts → ∀ v H', Same H H' → TestsAt H' v ts → Q v H')
theorem ok_read_tests {f fSp fRt : Addr} {fd fdSp fdRt : FuncData} (F : Fun K "read_tests" "read_tests" s_read_tests f fd) (g : Bi mg) (FSp : Def P w K mg base CX0 1 "split_at" ["tokens", "word"] spSplitAt fSp fdSp) (FRt : Def P w K mg base CX0 4 "read_test" ["tokens"] spReadTest fRt fdRt) : FnOk P w K mg base CX0 5 f fd ["tokens"] spReadTests := by
  obtain ⟨GSp, mSp, _, bSp⟩ := id FSp
  obtain ⟨GRt, mRt, _, bRt⟩ := id FRt
  refine F.ok sc_read_tests (fun vs H Q E h => ?_) (fun cdv A outer s H vs Q E hr h => ?_)
  · obtain ⟨_, _, rfl, _⟩ := h
    rfl
  · obtain ⟨a, zs, rfl, ha, ht, k0, k1⟩ := h
    have hrRt : Room 4 _ := hr
    have hrSp : Room 1 _ := hr.mono (by decide)
    refine ⟨_, (pss_cons (ps_setLc (i := 1) (own := [("group", 2)]) (g := gName 2)  (by rfl) sc_read_tests.nd rfl rfl (sw_true rfl rfl rfl (by decide +kernel)) (pi_list (pe_call GSp hrSp rfl mSp FSp.kp bSp .nil pass0 (pa_cons (pv 0) (pa_cons pe_str pa_nil)))) (blkOk_by (own := [("group", 2)]) (N := ["tokens", "tests", "group", "test"]) (sc := defScope s_read_tests) (by decide +kernel)) (fun _ _ _ _ _ => (pg_name (i := 2) sc_read_tests.nd rfl (Or.inl rfl))) (fun _ _ _ _ _ => pts_nil) (fun _ _ _ _ _ => (pe_call GRt hrRt rfl mRt FRt.kp bRt .nil pass0 (pa_cons (pv 2) pa_nil))))
      (pss_cons (ps_if (PW.pt (pw_or (pt_cmpR op_gt (pe_callB call_len (by rfl) g.len PySem.boot_len (pa_cons (pv 1) pa_nil)) pe_int (nomark _)) (pw_or1 (pt_not (pt_val (pe_callB (cr_all rfl) (by rfl) g.all (by decide +kernel) (pa_cons (pe_lc (own := [("test", 3)]) (g := gName 3)  (by rfl) sc_read_tests.nd (pi_list (pv 1)) (blkOk_by (own := [("test", 3)]) (N := ["tokens", "tests", "group", "test"]) (sc := defScope s_read_tests) (by decide +kernel)) (fun _ _ _ _ _ => (pg_name (i := 3) sc_read_tests.nd rfl (Or.inl rfl))) (fun _ _ _ _ _ => pts_nil) (fun _ _ _ _ _ => (pe_cmpR op_notN (pv 3) pe_non (nomark _)))) pa_nil))))))) (pss_one (ps_ret pe_non)) pss_nil)
      (pss_one (ps_ret (pe_callTy call_tuple_of (by rfl) g.tuple (by decide +kernel) (pa_cons (pv 1) pa_nil)))))), ?_⟩
    refine ⟨_, rfl, a, "and", zs, rfl, ha, ht.few, fun q H1 as hq s1 h1 hg => ?_⟩
    have hgl : as.length = (splitAt "and" zs).length := paired_lenD hg
    have hgl2 : as.length ≤ 161 := by rw [hgl]; have := splitAt_len "and" zs; have := ht.few; omega
    refine ⟨q, rfl, ⟨_, SqL.of h1⟩, fun D hD => lc_rel (R := OptR TestAt) (OptR.keep fun _ _ _ _ k h => h.keep k) (bs := (splitAt "and" zs).map readTest) (by rw [List.length_map, hgl]) h1 hD (by omega) (fun _ => rfl) (fun i x b hx hb H' s' Qe qk => ?_) fun H2 ws s2 hD2 hp => ?_⟩
    · obtain ⟨gr, hgr, p, rfl, hp⟩ := paired_get hg hx
      rw [List.getElem?_map, hgr] at hb
      obtain rfl := Option.some.inj hb
      have hgm := List.mem_of_getElem? hgr
      refine ⟨_, rfl, p, gr, rfl, s' _ _ hp, ht.sub (fun z hz => splitAt_mem hgm hz) (splitAt_glen hgm), fun hn H3 s3 => ?_, fun t htt v H3 s3 hv => ?_⟩
      · refine qk _ _ s3 ?_
        rw [hn]; rfl
      · refine qk _ _ s3 ?_
        rw [htt]; exact hv
    refine ⟨_, rfl, _, _, rfl, .inl ⟨_, SqL.of hD2, rfl⟩, _, _, rfl, rfl, ?_⟩
    have hwl : ws.length = (splitAt "and" zs).length := by rw [paired_lenD hp, List.length_map]
    by_cases c1 : 4 < ws.length
    · refine ⟨true, congrArg V.bl (decide_eq_true (by omega)), iteT (iteT ?_)⟩
      refine k0 ?_ _ (s1.trans s2)
      unfold readTests
      dsimp only
      rw [List.length_map, if_neg (fun q => by have := q.1; omega)]
    refine ⟨false, congrArg V.bl (decide_eq_false (by omega)), iteF ?_⟩
    refine ⟨_, rfl, D, rfl, ⟨_, SqL.of hD2⟩, fun D2 hD2' => lc_vals (ys := ((splitAt "and" zs).map readTest).map fun o => V.bl o.isSome) (by rw [List.length_map, List.length_map, hwl]) hD2 hD2' (by omega) (fun _ => rfl) (fun i x y hx hy H' s' Qe qk => ?_) fun H3 s3 hD3 => ?_⟩
    · obtain ⟨o, ho, hr⟩ := paired_get hp hx
      rw [List.getElem?_map, ho] at hy
      obtain rfl := Option.some.inj hy
      refine ⟨_, rfl, rfl, ?_⟩
      have q := qk _ (Same.refl H')
      cases o with
      | none =>
        obtain rfl : x = .non := hr
        exact q
      | some t =>
        have hx : x ≠ .non := (show TestAt H2 x t from hr).ne
        have e : (!decide (x = V.non)) = true := by rw [decide_eq_false hx]; rfl
        rw [e]
        exact q
    refine ⟨D2, ((splitAt "and" zs).map readTest).map Option.isSome, rfl, SqL.of (by rw [hD3, List.map_map, List.map_map, List.map_map]; rfl), ?_⟩
    have ea : (((splitAt "and" zs).map readTest).map Option.isSome).all id = ((splitAt "and" zs).map readTest).all Option.isSome := by rw [List.all_map]; rfl
    rw [ea]
    have hDt := s3 _ _ hD2
    cases c2 : ((splitAt "and" zs).map readTest).all Option.isSome with
    | false =>
      refine ⟨_, rfl, iteT ?_⟩
      refine k0 ?_ _ ((s1.trans s2).trans s3)
      unfold readTests
      dsimp only
      rw [if_neg (fun q => by rw [c2] at q; cases q.2)]
    | true =>
      refine ⟨_, rfl, iteF ?_⟩
      refine ⟨_, rfl, D, _, rfl, .inl ⟨SqL.of hDt, fun l hl => ?_⟩⟩
      have sl := Same.new (o := .tup ws) hl
      refine k1 (((splitAt "and" zs).map readTest).filterMap id) ?_ _ _ (((s1.trans s2).trans s3).trans sl) ⟨l, ws, rfl, upd_same, ?_⟩
      · unfold readTests
        dsimp only
        rw [List.length_map, if_pos ⟨by omega, c2⟩]
      · exact L2.Paired.mapP (opt_all hp c2) fun _ _ r => r.same (s3.trans sl)
end
end Dr

set_option Elab.async false
set_option linter.all false
set_option maxRecDepth 100000
set_option maxHeartbeats 8000000
set_option pp.maxSteps 700
/-! Doors: parts with an arrow. -/
namespace Dr
open PySem L2 Cs
inductive PartD where
  | join
  | new (k : Str)
  | kinds (w : Str) (ks : List Str) (af : Str)
  | kind (w : Str) (k af : Str)
def PartD.word : PartD → Str
  | .join => "join"
  | .new _ => "new"
  | .kinds w _ _ => w
  | .kind w _ _ => w
def readArrow (w : Str) (m : List Str) (ar af : Str) : Option PartD :=
  match readKinds "or" m with
  | none => none
  | some ks => if ar = (("->" : String) : Str) ∧ (kindB af = true ∨ af = (("gone" : String) : Str)) then
      if w = (("row" : String) : Str) ∨ (w = (("give" : String) : Str) ∧ af ≠ (("gone" : String) : Str)) then some (.kinds w ks af) else
      match ks with
      | [k] => if w = (("one" : String) : Str) ∨ w = (("all" : String) : Str) ∨ (w = (("take" : String) : Str) ∧ af ≠ (("gone" : String) : Str)) then some (.kind w k af) else none
      | _ => none
    else none
def PartAt (H : Hp) (v : V) : PartD → Prop
  | .join => ∃ p, v = .ref p ∧ H p = some (.tup [.str "join"])
  | .new k => ∃ p, v = .ref p ∧ H p = some (.tup [.str "new", .str k])
  | .kinds w ks af => ∃ p q, v = .ref p ∧ H p = some (.tup [.str w, .ref q, .str af]) ∧ H q = some (.tup (ks.map V.str))
  | .kind w k af => ∃ p, v = .ref p ∧ H p = some (.tup [.str w, .str k, .str af])
theorem PartAt.keep {H H' : Hp} {v : V} {t : PartD} (k : TupK H H') (h : PartAt H v t) : PartAt H' v t := by
  cases t with
  | join => obtain ⟨p, e, h1⟩ := h; exact ⟨p, e, k _ _ h1⟩
  | new x => obtain ⟨p, e, h1⟩ := h; exact ⟨p, e, k _ _ h1⟩
  | kinds w ks af => obtain ⟨p, q, e, h1, h2⟩ := h; exact ⟨p, q, e, k _ _ h1, k _ _ h2⟩
  | kind w x af => obtain ⟨p, e, h1⟩ := h; exact ⟨p, e, k _ _ h1⟩
theorem PartAt.ne {H : Hp} {v : V} {t : PartD} (h : PartAt H v t) : v ≠ .non := by
  cases t with
  | join => obtain ⟨p, rfl, _⟩ := h; exact fun e => by cases e
  | new x => obtain ⟨p, rfl, _⟩ := h; exact fun e => by cases e
  | kinds w ks af => obtain ⟨p, q, rfl, _⟩ := h; exact fun e => by cases e
  | kind w x af => obtain ⟨p, rfl, _⟩ := h; exact fun e => by cases e
theorem cut_mid (a : V) (m : List V) (x y : V) : cutV (a :: (m ++ [x, y])) (some 1) (some (-2)) = m := by
  unfold cutV
  have hl : (a :: (m ++ [x, y])).length = m.length + 3 := by simp
  have e : HT.sIx (a :: (m ++ [x, y])).length (a :: (m ++ [x, y])).length (some (-2)) = m.length + 1 := by
    show (if (-2 : Int) < 0 then ((-2 : Int) + (((a :: (m ++ [x, y])).length : Nat) : Int)).toNat else min (-2 : Int).toNat (a :: (m ++ [x, y])).length) = m.length + 1
    rw [if_pos (by decide), hl]
    omega
  rw [show (some (1 : Int)) = some ((1 : Nat) : Int) from rfl, HT.sIx_nat]
  rw [e, hl, Nat.min_eq_left (by omega)]
  show List.take (m.length + 1 - 1) (m ++ [x, y]) = m
  rw [Nat.add_sub_cancel, List.take_left]
section
variable {P : Program} {w : World} {K : PySem.W.Frag} {mg : Str → Option Value} {base : Heap}
def spReadArrow : Sp := fun vs H Q _ => ∃ (a : Addr) (wd : Str) (m : List Str) (ar af : Str), vs = [.ref a] ∧ H a = some (.lst ((wd :: (m ++ [ar, af])).map V.str)) ∧ TokS (wd :: (m ++ [ar, af])) ∧ (readArrow wd m ar af = none → ∀ H', Same H H' → Q .non H') ∧ (∀ t, readArrow wd m ar af = some t → ∀ v H', Same H H' → PartAt H' v t → Q v H')
theorem ok_read_arrow {f fRk fIk : Addr} {fd fdRk fdIk : FuncData} (F : Fun K "read_arrow" "read_arrow" s_read_arrow f fd) (g : Bi mg) (FRk : Def P w K mg base CX0 3 "read_kinds" ["tokens", "between"] spReadKinds fRk fdRk) (FIk : Def P w K mg base CX0 2 "is_kind" ["thing"] (spIsKind K) fIk fdIk) : FnOk P w K mg base CX0 4 f fd ["tokens"] spReadArrow := by
  obtain ⟨GRk, mRk, _, bRk⟩ := id FRk
  obtain ⟨GIk, mIk, _, bIk⟩ := id FIk
  refine F.ok sc_read_arrow (fun vs H Q E h => ?_) (fun cdv A outer s H vs Q E hr h => ?_)
  · obtain ⟨_, _, _, _, _, rfl, _⟩ := h
    rfl
  · obtain ⟨a, wd, m, ar, af, rfl, ha, ht, k0, k1⟩ := h
    have hrRk : Room 3 _ := hr
    have hrIk : Room 2 _ := hr.mono (by decide)
    have em : (wd :: (m ++ [ar, af])).map V.str = .str wd :: (m.map V.str ++ [.str ar, .str af]) := by rw [List.map_cons, List.map_append]; rfl
    rw [em] at ha
    have em2 : V.str wd :: (m.map V.str ++ [.str ar, .str af]) = (V.str wd :: m.map V.str) ++ [.str ar, .str af] := rfl
    refine ⟨_, (pss_cons (ps_par3 (i := 1) (j := 2) (l := 3) rfl sc_read_arrow.nd rfl rfl rfl (by decide) (by decide) (by decide) rfl rfl rfl (pa_cons (pe_ix ix_list (pv 0) pe_int (fun _ _ => rfl)) (pa_cons (pe_slice sl_list (pv 0) (po_some pe_int) (po_some (pe_un un_neg pe_int))) (pa_cons (pe_ix ix_list (pv 0) (pe_un un_neg pe_int) (fun _ _ => rfl)) pa_nil))) (by rfl))
      (pss_cons (ps_set (i := 4) sc_read_arrow.nd rfl (Or.inl rfl) (pe_call GRk hrRk rfl mRk FRk.kp bRk .nil pass0 (pa_cons (pv 2) (pa_cons pe_str pa_nil))))
      (C8.pss_cut (ps_if (PW.pt (pw_or (pt_cmpR op_ne (pe_ix ix_list (pv 0) (pe_un un_neg pe_int) (fun _ _ => rfl)) pe_str (nomark _)) (pw_or (pt_cmpR op_isN (pv 4) pe_non (nomark _)) (pw_or1 (pt_not (PW.pt (pw_or (pt_val (pe_call GIk hrIk rfl mIk FIk.kp bIk .nil pass0 (pa_cons (pv 3) pa_nil))) (pw_or1 (pt_cmpR op_eq (pv 3) pe_str (nomark _)))))))))) (pss_one (ps_ret pe_non)) pss_nil)
      (C8.pss_cut (ps_if (PW.pt (pw_or (pt_cmpR op_eq (pv 1) pe_str (nomark _)) (pw_or1 (PW.pt (pw_and (pt_cmpR op_eq (pv 1) pe_str (nomark _)) (pw_and1 (pt_cmpR op_ne (pv 3) pe_str (nomark _)))))))) (pss_one (ps_ret (pe_tup (pa_cons (pv 1) (pa_cons (pv 4) (pa_cons (pv 3) pa_nil)))))) pss_nil)
      (C8.pss_cut (ps_if (PW.pt (pw_and (pt_cmpR op_eq (pe_callB call_len (by rfl) g.len PySem.boot_len (pa_cons (pv 4) pa_nil)) pe_int (nomark _)) (pw_and1 (PW.pt (pw_or (pt_cmpR op_in_seq (pv 1) (pe_tup (pa_cons pe_str (pa_cons pe_str pa_nil))) (by rfl)) (pw_or1 (PW.pt (pw_and (pt_cmpR op_eq (pv 1) pe_str (nomark _)) (pw_and1 (pt_cmpR op_ne (pv 3) pe_str (nomark _))))))))))) (pss_one (ps_ret (pe_tup (pa_cons (pv 1) (pa_cons (pe_ix ix_tup (pv 4) pe_int (fun _ _ => rfl)) (pa_cons (pv 3) pa_nil)))))) pss_nil)
      (pss_one (ps_ret pe_non))))))), ?_⟩
    refine ⟨_, rfl, a, _, 0, _, rfl, rfl, SqL.of ha, atI_nat (j := 0) rfl, ?_⟩
    refine ⟨_, rfl, _, rfl, _, rfl, _, rfl, a, _, rfl, SqL.of ha, fun p1 hp1 => ?_⟩
    rw [cut_mid]
    have s1 := Same.new (o := .lst (m.map V.str)) hp1
    have e1 := upd_same (H := H) (a := p1) (o := .lst (m.map V.str))
    have ha1 := s1 _ _ ha
    generalize upd H p1 (.lst (m.map V.str)) = H1 at s1 e1 ha1 ⊢
    refine ⟨_, rfl, _, rfl, a, _, -1, _, rfl, rfl, SqL.of ha1, at_one (V.str wd :: m.map V.str) _ _, _, _, _, rfl, ?_⟩
    have htm : TokS m := ht.sub (fun z hz => List.mem_cons_of_mem _ (List.mem_append_left _ hz)) (by simp; omega)
    have haf : af.length ≤ 100000 := ht.len af (by simp)
    have nG : ∀ x : Str, decide (V.str x = V.str "gone") = decide (x = (("gone" : String) : Str)) := fun x => by congr 1; exact propext ⟨fun e => V.str.inj e, fun e => by rw [e]⟩
    refine ⟨_, rfl, p1, "or", m, rfl, e1, htm.few, htm.len, fun hn H2 s2 => ?_, fun ks hk q H2 s2 hq => ?_⟩
    · have er : readArrow wd m ar af = none := by unfold readArrow; rw [hn]
      refine ⟨fun _ _ => False, ?_, fun _ _ z => z.elim⟩
      refine ⟨_, rfl, _, rfl, a, _, -2, _, rfl, rfl, SqL.of (s2 _ _ ha1), at_two (V.str wd :: m.map V.str) _ _, rfl, _, rfl, ?_⟩
      by_cases c1 : ar = (("->" : String) : Str)
      · rw [show (!decide (V.str ar = V.str "->")) = false by rw [c1, decide_eq_true rfl]; rfl]
        refine iteF ?_
        refine ⟨_, rfl, rfl, true, congrArg V.bl (decide_eq_true rfl), iteT (iteT ?_)⟩
        exact k0 er _ (s1.trans s2)
      · rw [show (!decide (V.str ar = V.str "->")) = true by rw [decide_eq_false (fun e => c1 (V.str.inj e))]; rfl]
        exact iteT (iteT (k0 er _ (s1.trans s2)))
    have s12 := s1.trans s2
    refine ⟨fun σ' H' => σ' = [some (.ref a), some (.str wd), some (.ref p1), some (.str af), some (.ref q)] ∧ Same H2 H' ∧ ar = (("->" : String) : Str) ∧ (kindB af = true ∨ af = (("gone" : String) : Str)), ?_, ?_⟩
    · refine ⟨_, rfl, _, rfl, a, _, -2, _, rfl, rfl, SqL.of (s2 _ _ ha1), at_two (V.str wd :: m.map V.str) _ _, rfl, _, rfl, ?_⟩
      by_cases c1 : ¬ ar = (("->" : String) : Str)
      · rw [show (!decide (V.str ar = V.str "->")) = true by rw [decide_eq_false (fun e => c1 (V.str.inj e))]; rfl]
        refine iteT (iteT (k0 ?_ _ s12))
        unfold readArrow
        rw [hk]
        dsimp only
        rw [if_neg (fun q => c1 q.1)]
      have c1 := Decidable.not_not.mp c1
      rw [show (!decide (V.str ar = V.str "->")) = false by rw [c1, decide_eq_true rfl]; rfl]
      refine iteF ?_
      refine ⟨_, rfl, rfl, false, congrArg V.bl (decide_eq_false fun z => by cases z), iteF ?_⟩
      refine ⟨_, rfl, .inl ⟨af, rfl, haf, fun H3 s3 => ?_⟩⟩
      refine ⟨_, rfl, ?_⟩
      cases c2 : kindB af with
      | true => exact iteT (iteF ⟨rfl, s3, c1, .inl rfl⟩)
      | false =>
        refine iteF ⟨_, rfl, rfl, _, rfl, ?_⟩
        rw [nG]
        by_cases c3 : af = (("gone" : String) : Str)
        · rw [decide_eq_true c3]
          exact iteF ⟨rfl, s3, c1, .inr c3⟩
        · rw [decide_eq_false c3]
          refine iteT (k0 ?_ _ (s12.trans s3))
          unfold readArrow
          rw [hk]
          dsimp only
          rw [if_neg (fun q => by rcases q.2 with z | z; rw [c2] at z; cases z; exact c3 z)]
    rintro σ2 H3 ⟨rfl, s3, c1, c2⟩
    have s13 := s12.trans s3
    have hq3 := s3 _ _ hq
    have er : readArrow wd m ar af = if wd = (("row" : String) : Str) ∨ (wd = (("give" : String) : Str) ∧ af ≠ (("gone" : String) : Str)) then some (.kinds wd ks af) else
      match ks with
      | [k] => if wd = (("one" : String) : Str) ∨ wd = (("all" : String) : Str) ∨ (wd = (("take" : String) : Str) ∧ af ≠ (("gone" : String) : Str)) then some (.kind wd k af) else none
      | _ => none := by
      unfold readArrow
      rw [hk]
      dsimp only
      rw [if_pos ⟨c1, c2⟩]
    have nS : ∀ x y : Str, decide (V.str x = V.str y) = decide (x = y) := fun x y => by congr 1; exact propext ⟨fun e => V.str.inj e, fun e => by rw [e]⟩
    refine ⟨fun σ' H' => σ' = [some (.ref a), some (.str wd), some (.ref p1), some (.str af), some (.ref q)] ∧ Same H3 H' ∧ ¬ (wd = (("row" : String) : Str) ∨ (wd = (("give" : String) : Str) ∧ af ≠ (("gone" : String) : Str))), ?_, ?_⟩
    · have yes : wd = (("row" : String) : Str) ∨ (wd = (("give" : String) : Str) ∧ af ≠ (("gone" : String) : Str)) → ∀ l, H3 l = none → Q (.ref l) (upd H3 l (.tup [.str wd, .ref q, .str af])) := fun c l hl => by
        have sl := Same.new (o := .tup [.str wd, .ref q, .str af]) hl
        exact k1 (.kinds wd ks af) (by rw [er, if_pos c]) _ _ (s13.trans sl) ⟨l, q, rfl, upd_same, sl _ _ hq3⟩
      refine ⟨_, rfl, rfl, _, rfl, ?_⟩
      rw [nS]
      by_cases c3 : wd = (("row" : String) : Str)
      · rw [decide_eq_true c3]
        exact iteT (iteT ⟨_, rfl, _, rfl, _, rfl, by show 3 ≤ sizeLine; decide, fun l hl => yes (.inl c3) l hl⟩)
      rw [decide_eq_false c3]
      refine iteF ⟨_, rfl, rfl, _, rfl, ?_⟩
      rw [nS]
      by_cases c4 : wd = (("give" : String) : Str)
      · rw [decide_eq_true c4]
        refine iteT ⟨_, rfl, rfl, _, rfl, ?_⟩
        rw [nS]
        by_cases c5 : af = (("gone" : String) : Str)
        · rw [decide_eq_true c5]
          exact iteF ⟨rfl, Same.refl _, fun z => z.elim c3 fun y => y.2 c5⟩
        · rw [decide_eq_false c5]
          exact iteT ⟨_, rfl, _, rfl, _, rfl, by show 3 ≤ sizeLine; decide, fun l hl => yes (.inr ⟨c4, c5⟩) l hl⟩
      · rw [decide_eq_false c4]
        exact iteF (iteF ⟨rfl, Same.refl _, fun z => z.elim c3 fun y => c4 y.1⟩)
    rintro σ4 H4 ⟨rfl, s4, c3⟩
    have s14 := s13.trans s4
    have hq4 := s4 _ _ hq3
    rw [if_neg c3] at er
    refine ⟨fun σ' H' => Same H H' ∧ readArrow wd m ar af = none, ?_, fun _ H' z => k0 z.2 H' z.1⟩
    refine ⟨_, rfl, _, _, rfl, .inr ⟨_, SqT.of hq4, rfl⟩, rfl, _, rfl, ?_⟩
    rw [List.length_map]
    have pos : ∀ n : Nat, decide (V.int (n : Int) = V.int 1) = decide (n = 1) := fun n => by congr 1; exact propext ⟨fun e => by have := V.int.inj e; omega, fun e => by rw [e]; rfl⟩
    rw [pos]
    by_cases c4 : ¬ ks.length = 1
    · rw [decide_eq_false c4]
      refine iteF (iteF ⟨s14, ?_⟩)
      rw [er]
      match ks, c4 with
      | [], _ => rfl
      | [_], c => exact absurd rfl c
      | _ :: _ :: _, _ => rfl
    have c4 := Decidable.not_not.mp c4
    rw [decide_eq_true c4]
    obtain ⟨kd, rfl⟩ := List.length_eq_one_iff.mp c4
    dsimp only at er
    refine iteT ⟨_, rfl, by show 2 ≤ sizeLine; decide, fun t ht2 => ?_⟩
    refine ⟨t, [.str "one", .str "all"], rfl, .inr (SqT.of upd_same), rfl, rfl, _, rfl, ?_⟩
    have st := Same.new (o := .tup [.str "one", .str "all"]) ht2
    have hq5 := st _ _ hq4
    have s15 := s14.trans st
    generalize upd H4 t (.tup [.str "one", .str "all"]) = H5 at st hq5 s15 ⊢
    have yes : wd = (("one" : String) : Str) ∨ wd = (("all" : String) : Str) ∨ (wd = (("take" : String) : Str) ∧ af ≠ (("gone" : String) : Str)) → ∀ l, H5 l = none → Q (.ref l) (upd H5 l (.tup [.str wd, .str kd, .str af])) := fun c l hl => by
      have sl := Same.new (o := .tup [.str wd, .str kd, .str af]) hl
      exact k1 (.kind wd kd af) (by rw [er, if_pos c]) _ _ (s15.trans sl) ⟨l, rfl, upd_same⟩
    rw [show (if false = true then !inV (V.str wd) [V.str "one", V.str "all"] else inV (V.str wd) [V.str "one", V.str "all"]) = decide (wd ∈ [(("one" : String) : Str), "all"]) from inV_strs wd ["one", "all"]]
    by_cases c5 : wd ∈ [(("one" : String) : Str), "all"]
    · rw [decide_eq_true c5]
      refine iteT (iteT ⟨_, rfl, _, rfl, q, _, 0, _, rfl, rfl, SqT.of hq5, rfl, _, rfl, by show 3 ≤ sizeLine; decide, fun l hl => yes ?_ l hl⟩)
      rcases List.mem_cons.mp c5 with e | e
      · exact .inl e
      · exact .inr (.inl (List.mem_singleton.mp e))
    rw [decide_eq_false c5]
    have n1 : ¬ wd = (("one" : String) : Str) := fun e => c5 (by rw [e]; exact List.mem_cons_self)
    have n2 : ¬ wd = (("all" : String) : Str) := fun e => c5 (by rw [e]; exact List.mem_cons_of_mem _ List.mem_cons_self)
    refine iteF ⟨_, rfl, rfl, _, rfl, ?_⟩
    rw [nS]
    by_cases c6 : wd = (("take" : String) : Str)
    · rw [decide_eq_true c6]
      refine iteT ⟨_, rfl, rfl, _, rfl, ?_⟩
      rw [nS]
      by_cases c7 : af = (("gone" : String) : Str)
      · rw [decide_eq_true c7]
        refine iteF ⟨s15, ?_⟩
        rw [er, if_neg (fun z => by rcases z with z | z | z; exact n1 z; exact n2 z; exact z.2 c7)]
      · rw [decide_eq_false c7]
        exact iteT ⟨_, rfl, _, rfl, q, _, 0, _, rfl, rfl, SqT.of hq5, rfl, _, rfl, by show 3 ≤ sizeLine; decide, fun l hl => yes (.inr (.inr ⟨c6, c7⟩)) l hl⟩
    · rw [decide_eq_false c6]
      refine iteF (iteF ⟨s15, ?_⟩)
      rw [er, if_neg (fun z => by rcases z with z | z | z; exact n1 z; exact n2 z; exact c6 z.1)]
end
end Dr

set_option Elab.async false
set_option linter.all false
set_option maxRecDepth 100000
set_option maxHeartbeats 8000000
set_option pp.maxSteps 700
/-! Doors: parts. -/
namespace Dr
open PySem L2 Cs
def readPart (zs : List Str) : Option PartD := if zs = [(("join" : String) : Str)] then some .join else
  if zs.length = 2 then (if zs.headD Str.empty = (("new" : String) : Str) ∧ kindB (zs.getLastD Str.empty) = true then some (.new (zs.getLastD Str.empty)) else none) else
  if zs.length < 4 then none else readArrow (zs.headD Str.empty) zs.tail.dropLast.dropLast (zs.tail.dropLast.getLastD Str.empty) (zs.tail.getLastD Str.empty)
section
variable {P : Program} {w : World} {K : PySem.W.Frag} {mg : Str → Option Value} {base : Heap}
def spReadPart : Sp := fun vs H Q _ => ∃ (a : Addr) (zs : List Str), vs = [.ref a] ∧ H a = some (.lst (zs.map V.str)) ∧ TokS zs ∧ (readPart zs = none → ∀ H', Same H H' → Q .non H') ∧ (∀ t, readPart zs = some t → ∀ v H', Same H H' → PartAt H' v t → Q v H')
theorem ok_read_part {f fRa fIk : Addr} {fd fdRa fdIk : FuncData} (F : Fun K "read_part" "read_part" s_read_part f fd) (g : Bi mg) (FRa : Def P w K mg base CX0 4 "read_arrow" ["tokens"] spReadArrow fRa fdRa) (FIk : Def P w K mg base CX0 2 "is_kind" ["thing"] (spIsKind K) fIk fdIk) : FnOk P w K mg base CX0 5 f fd ["tokens"] spReadPart := by
  obtain ⟨GRa, mRa, _, bRa⟩ := id FRa
  obtain ⟨GIk, mIk, _, bIk⟩ := id FIk
  refine F.ok sc_read_part (fun vs H Q E h => ?_) (fun cdv A outer s H vs Q E hr h => ?_)
  · obtain ⟨_, _, rfl, _⟩ := h
    rfl
  · obtain ⟨a, zs, rfl, ha, ht, k0, k1⟩ := h
    have hrRa : Room 4 _ := hr
    have hrIk : Room 2 _ := hr.mono (by decide)
    have nS : ∀ x y : Str, decide (V.str x = V.str y) = decide (x = y) := fun x y => by congr 1; exact propext ⟨fun e => V.str.inj e, fun e => by rw [e]⟩
    refine ⟨_, (pss_cons (ps_if (pt_cmpR (op_eqD hr.units) (pv 0) (pe_lst (pa_cons pe_str pa_nil)) (nomark _)) (pss_one (ps_ret (pe_tup (pa_cons pe_str pa_nil)))) pss_nil)
      (pss_cons (ps_if (PW.pt (pw_and (pt_cmpR op_eq (pe_callB call_len (by rfl) g.len PySem.boot_len (pa_cons (pv 0) pa_nil)) pe_int (nomark _)) (pw_and (pt_cmpR op_eq (pe_ix ix_list (pv 0) pe_int (fun _ _ => rfl)) pe_str (nomark _)) (pw_and1 (pt_val (pe_call GIk hrIk rfl mIk FIk.kp bIk .nil pass0 (pa_cons (pe_ix ix_list (pv 0) pe_int (fun _ _ => rfl)) pa_nil))))))) (pss_one (ps_ret (pe_tup (pa_cons pe_str (pa_cons (pe_ix ix_list (pv 0) pe_int (fun _ _ => rfl)) pa_nil))))) pss_nil)
      (pss_cons (ps_if (pt_cmpR op_lt (pe_callB call_len (by rfl) g.len PySem.boot_len (pa_cons (pv 0) pa_nil)) pe_int (nomark _)) (pss_one (ps_ret pe_non)) pss_nil)
      (pss_one (ps_ret (pe_call GRa hrRa rfl mRa FRa.kp bRa .nil pass0 (pa_cons (pv 0) pa_nil))))))), ?_⟩
    have soj : ∀ z ∈ [(("join" : String) : Str)], PyData.strOk z = true := fun z hz => by rw [List.mem_singleton.mp hz]; decide +kernel
    refine ⟨_, rfl, by show 1 ≤ sizeLine; decide, fun p1 hp1 => ?_⟩
    have s1 := Same.new (o := .lst [.str "join"]) hp1
    have e1 := upd_same (H := H) (a := p1) (o := .lst [.str "join"])
    have ha1 := s1 _ _ ha
    generalize upd H p1 (.lst [.str "join"]) = H1 at s1 e1 ha1 ⊢
    refine eqS_go (ws := ["join"]) ha1 e1 ht.ok soj ⟨_, rfl, ?_⟩
    by_cases c1 : zs = [(("join" : String) : Str)]
    · rw [decide_eq_true c1]
      refine iteT ⟨by show 1 ≤ sizeLine; decide, fun l hl => ?_⟩
      have sl := Same.new (o := .tup [.str "join"]) hl
      exact k1 .join (by unfold readPart; rw [if_pos c1]) _ _ (s1.trans sl) ⟨l, rfl, upd_same⟩
    rw [decide_eq_false c1]
    refine iteF ?_
    refine ⟨_, rfl, _, _, rfl, .inl ⟨_, SqL.of ha1, rfl⟩, rfl, _, rfl, ?_⟩
    have pos : ∀ n : Nat, decide (V.int (n : Int) = V.int 2) = decide (n = 2) := fun n => by congr 1; exact propext ⟨fun e => by have := V.int.inj e; omega, fun e => by rw [e]; rfl⟩
    rw [List.length_map, pos]
    by_cases c2 : zs.length = 2
    · rw [decide_eq_true c2]
      obtain ⟨x, y, rfl⟩ : ∃ x y, zs = [x, y] := by
        match zs, c2 with
        | [x, y], _ => exact ⟨x, y, rfl⟩
      have er : readPart [x, y] = if x = (("new" : String) : Str) ∧ kindB y = true then some (.new y) else none := by
        unfold readPart
        rw [if_neg c1, if_pos c2]
        rfl
      have no : readPart [x, y] = none → ∀ H', Same H H' → Q .non H' := k0
      have fewer : decide ((([x, y].map V.str).length : Int) < 4) = true := rfl
      refine iteT ⟨_, rfl, a, _, 0, _, rfl, rfl, SqL.of ha1, rfl, rfl, _, rfl, ?_⟩
      rw [nS]
      by_cases c3 : x = (("new" : String) : Str)
      · rw [decide_eq_true c3]
        refine iteT ⟨_, rfl, a, _, 1, _, rfl, rfl, SqL.of ha1, rfl, .inl ⟨y, rfl, ht.len y (by simp), fun H2 s2 => ⟨_, rfl, ?_⟩⟩⟩
        have ha2 := s2 _ _ ha1
        cases c4 : kindB y with
        | true =>
          refine iteT ⟨_, rfl, a, _, 1, _, rfl, rfl, SqL.of ha2, rfl, by show 2 ≤ sizeLine; decide, fun l hl => ?_⟩
          have sl := Same.new (o := .tup [.str "new", .str y]) hl
          exact k1 (.new y) (by rw [er, if_pos ⟨c3, c4⟩]) _ _ ((s1.trans s2).trans sl) ⟨l, rfl, upd_same⟩
        | false =>
          refine iteF ⟨_, rfl, _, _, rfl, .inl ⟨_, SqL.of ha2, rfl⟩, _, _, rfl, rfl, true, rfl, iteT ?_⟩
          exact k0 (by rw [er, if_neg (fun z => by rw [c4] at z; cases z.2)]) _ (s1.trans s2)
      · rw [decide_eq_false c3]
        refine iteF (iteF ⟨_, rfl, _, _, rfl, .inl ⟨_, SqL.of ha1, rfl⟩, _, _, rfl, rfl, true, rfl, iteT ?_⟩)
        exact k0 (by rw [er, if_neg (fun z => c3 z.1)]) _ s1
    rw [decide_eq_false c2]
    refine iteF (iteF ⟨_, rfl, _, _, rfl, .inl ⟨_, SqL.of ha1, rfl⟩, _, _, rfl, rfl, ?_⟩)
    rw [List.length_map]
    by_cases c3 : zs.length < 4
    · refine ⟨true, congrArg V.bl (decide_eq_true (by omega)), iteT ?_⟩
      exact k0 (by unfold readPart; rw [if_neg c1, if_neg c2, if_pos c3]) _ s1
    refine ⟨false, congrArg V.bl (decide_eq_false (by omega)), iteF ?_⟩
    cases zs with
    | nil => exact absurd (show 0 < 4 by decide) c3
    | cons wd rest =>
    obtain ⟨m, ar, af, rfl⟩ := two_back (zs := rest) (by rw [List.length_cons] at c3; omega)
    obtain ⟨l1, l2, l3⟩ := last2 m ar af
    have er : readPart (wd :: (m ++ [ar, af])) = readArrow wd m ar af := by
      unfold readPart
      rw [if_neg c1, if_neg c2, if_neg c3]
      show readArrow wd (m ++ [ar, af]).dropLast.dropLast ((m ++ [ar, af]).dropLast.getLastD Str.empty) ((m ++ [ar, af]).getLastD Str.empty) = _
      rw [l1, l2, l3]
    exact ⟨_, rfl, a, wd, m, ar, af, rfl, ha1, ht, fun hn H2 s2 => k0 (by rw [er, hn]) _ (s1.trans s2), fun t htt v H2 s2 hv => k1 t (by rw [er, htt]) _ _ (s1.trans s2) hv⟩
end
end Dr

set_option Elab.async false
set_option linter.all false
set_option maxRecDepth 100000
set_option maxHeartbeats 4000000
/-! zip of a list and a tuple. -/
namespace Cs
open PySem PySem.Spec PyProof.Rows L2
section
variable {prog : Program} {w : World} {A : Around} {E : Value → Shared → Prop} {s : Shared} {z TI TO i1 i2 l1 l2 : Addr} {k1 k2 : Nat} {xs ys : Array Value} {x y a b : Value}
/-- all but the zip's own four objects stays -/
def ZKeep (z TO i1 i2 : Addr) (h h' : Heap) : Prop := ∀ c o, c ≠ z → c ≠ TO → c ≠ i1 → c ≠ i2 → h.get? c = some o → h'.get? c = some o
theorem zm_item {Q : Value → Shared → Prop} (D : ZipApart z TI TO i1 i2 l1 l2) (hz : IsZip s.heap z TI TO .none) (hTI : IsPair s.heap TI (.ref i1) (.ref i2)) (hTO : IsPair s.heap TO a b) (h1 : s.heap.IsListIter i1 l1 k1) (h2 : s.heap.IsTupleIter i2 l2 k2)
    (hl1 : s.heap.IsList l1 xs) (hl2 : s.heap.IsTuple l2 ys) (hx : xs[k1]? = some x) (hy : ys[k2]? = some y)
    (hQ : ∀ h', IsZip h' z TI TO (rawInt s.heap.objs.size) → IsPair h' TO x y → h'.IsListIter i1 l1 (k1 + 1) → h'.IsTupleIter i2 l2 (k2 + 1) → IsPair h' s.heap.objs.size x y → h'.objs.size = s.heap.objs.size + 1 → ZKeep z TO i1 i2 s.heap h' → Q (.ref s.heap.objs.size) { s with heap := h' }) :
    wpAny (model prog w) A (Builtin.«zip.__next__» ⟨[.ref z], []⟩) (fun fin s' => ∃ v, fin = .done (.ret v) ∧ Q v s') E s := by
  show wpAny _ _ (field (.ref z) 2 >>= _) _ _ _; refine wpAny_bind (wpAny_field hz rfl (x := .bool false) rfl ?_)
  show wpAny _ _ (field (.ref z) 3 >>= _) _ _ _; refine wpAny_bind (wpAny_field hz rfl (x := .ref TI) rfl (wpAny_bind (wpAny_seqItems hTI rfl ?_)))
  show wpAny _ _ (Builtin.SmallTypes.ownedTupleIsFree (.ref z) >>= _) _ _ _; refine wpAny_bind ?_; unfold Builtin.SmallTypes.ownedTupleIsFree
  refine wpAny_bind (wpAny_field hz rfl (x := .none) rfl (wpAny_pure ?_)); simp only [if_true]
  refine wpAny_bind (wpAny_rule (wpAny_bind (wpAny_field hz rfl (x := .ref TO) rfl (wpAny_bind (wpAny_setField_rec hz (by simp) fun g1 z1 b1 => ?_)))))
  replace z1 : IsZip g1 z TI TO .ellipsis := z1; refine wpAny_bind ?_; simp only [List.zipIdx_cons, List.zipIdx_nil, List.forIn_cons, List.forIn_nil]
  refine wpAny_bind (wpAny_bind (wpAny_onRaise ?_)); show wpAny _ _ (Builtin.SmallTypes.nextOf (.ref i1) >>= _) _ _ _
  refine wpAny_bind (wpAny_nextOf_list_item (s := { s with heap := g1 }) (h1.extBut b1.extBut D.i1z) (hl1.extBut b1.extBut D.l1z) hx fun g2 j2 b2 => wpAny_pure ?_)
  have p2 : IsPair g2 TO a b := b2.extBut _ _ D.TOi1 (b1.extBut _ _ D.TOz hTO)
  refine wpAny_bind (wpAny_seqItems p2 rfl (wpAny_bind (wpAny_updateSeq_pair p2 fun g3 p3 b3 => wpAny_bind (wpAny_letGo (wpAny_pure ?_)))))
  replace p3 : IsPair g3 TO x b := p3; refine wpAny_bind (wpAny_bind (wpAny_onRaise ?_)); show wpAny _ _ (Builtin.SmallTypes.nextOf (.ref i2) >>= _) _ _ _
  refine wpAny_bind (RZ.nextOf_tuple_item (((h2.extBut b1.extBut D.i2z).extBut b2.extBut D.i12.symm).extBut b3.extBut D.TOi2.symm) (((hl2.extBut b1.extBut D.l2z).extBut b2.extBut D.l2i1).extBut b3.extBut D.l2TO) hy fun g4 j4 b4 => wpAny_pure ?_)
  have p4 : IsPair g4 TO x b := b4.extBut _ _ D.TOi2 p3
  refine wpAny_bind (wpAny_seqItems p4 rfl (wpAny_bind (wpAny_updateSeq_pair p4 fun g5 p5 b5 => wpAny_bind (wpAny_letGo (wpAny_pure (wpAny_pure ?_))))))
  replace p5 : IsPair g5 TO x y := p5; refine wpAny_bind (wpAny_seqItems p5 rfl (wpAny_bind (wpAny_newTuple ?_)))
  have sz : g5.objs.size = s.heap.objs.size := by rw [b5.1, b4.1, b3.1, b2.1, b1.1]
  have z5 : IsZip g5 z TI TO .ellipsis := b5.extBut _ _ D.TOz.symm (b4.extBut _ _ D.i2z.symm (b3.extBut _ _ D.TOz.symm (b2.extBut _ _ D.i1z.symm z1)))
  have kp : ZKeep z TO i1 i2 s.heap g5 := fun c o c1 c2 c3 c4 e => b5.extBut _ _ c2 (b4.extBut _ _ c4 (b3.extBut _ _ c2 (b2.extBut _ _ c3 (b1.extBut _ _ c1 e))))
  have q1 : g5.IsListIter i1 l1 (k1 + 1) := ((j2.extBut b3.extBut D.TOi1.symm).extBut b4.extBut D.i12).extBut b5.extBut D.TOi1.symm
  have q2 : g5.IsTupleIter i2 l2 (k2 + 1) := j4.extBut b5.extBut D.TOi2.symm
  have zlt : z < g5.objs.size := Heap.lt_size z5
  show wpAny _ _ (Builtin.SmallTypes.ownedTupleHandOut (.ref z) (.ref g5.objs.size) >>= _) _ _ _; refine wpAny_bind ?_; unfold Builtin.SmallTypes.ownedTupleHandOut
  have z6 : IsZip (g5.push { cls := .type "tuple", data := .seq #[x, y] }) z TI TO .ellipsis := Heap.get?_push_of_some _ z5
  refine wpAny_bind (wpAny_setField_rec z6 (by simp) fun g7 z7 b7 => ?_); replace z7 : IsZip g7 z TI TO (rawInt g5.objs.size) := z7
  refine wpAny_setField_rec z7 (by simp) fun g8 z8 b8 => ?_; replace z8 : IsZip g8 z TI TO (rawInt g5.objs.size) := z8
  have up : ∀ c o, c ≠ z → g5.get? c = some o → g8.get? c = some o := fun c o c1 e => b8.extBut _ _ c1 (b7.extBut _ _ c1 (Heap.get?_push_of_some _ e))
  have t8 : IsPair g8 g5.objs.size x y := b8.extBut _ _ (Nat.ne_of_gt zlt) (b7.extBut _ _ (Nat.ne_of_gt zlt) (Heap.get?_push_size _ rfl))
  have n8 : g8.objs.size = g5.objs.size + 1 := by rw [b8.1, b7.1, Heap.size_push]
  rw [sz] at z8 t8 n8; refine wpAny_pure ⟨_, rfl, ?_⟩; show Q (.ref g5.objs.size) _; rw [sz]
  exact hQ g8 z8 (up _ _ D.TOz p5) (q1.at fun o e => up _ o D.i1z e) (q2.at fun o e => up _ o D.i2z e) t8 n8 fun c o c1 c2 c3 c4 e => up c o c1 (kp c o c1 c2 c3 c4 e)
theorem zm_end {Q : Fin → Shared → Prop} (hh : A.handled = none) (D : ZipApart z TI TO i1 i2 l1 l2) (hz : IsZip s.heap z TI TO .none) (hTI : IsPair s.heap TI (.ref i1) (.ref i2)) (hTO : IsPair s.heap TO a b) (h1 : s.heap.IsListIter i1 l1 k1) (h2 : s.heap.IsTupleIter i2 l2 k2)
    (hl1 : s.heap.IsList l1 xs) (hl2 : s.heap.IsTuple l2 ys) (hend : xs[k1]? = none ∨ ys[k2]? = none)
    (hE : ∀ h' e, ZKeep z TO i1 i2 s.heap h' → (∃ o, h'.get? e = some o ∧ o.cls = .type "StopIteration") → E (.ref e) { s with heap := h' }) : wpAny (model prog w) A (Builtin.«zip.__next__» ⟨[.ref z], []⟩) Q E s := by
  show wpAny _ _ (field (.ref z) 2 >>= _) _ _ _; refine wpAny_bind (wpAny_field hz rfl (x := .bool false) rfl ?_)
  show wpAny _ _ (field (.ref z) 3 >>= _) _ _ _; refine wpAny_bind (wpAny_field hz rfl (x := .ref TI) rfl (wpAny_bind (wpAny_seqItems hTI rfl ?_)))
  show wpAny _ _ (Builtin.SmallTypes.ownedTupleIsFree (.ref z) >>= _) _ _ _; refine wpAny_bind ?_; unfold Builtin.SmallTypes.ownedTupleIsFree
  refine wpAny_bind (wpAny_field hz rfl (x := .none) rfl (wpAny_pure ?_)); simp only [if_true]
  refine wpAny_bind (wpAny_rule (wpAny_bind (wpAny_field hz rfl (x := .ref TO) rfl (wpAny_bind (wpAny_setField_rec hz (by simp) fun g1 z1 b1 => ?_)))))
  replace z1 : IsZip g1 z TI TO .ellipsis := z1; refine wpAny_bind ?_; simp only [List.zipIdx_cons, List.zipIdx_nil, List.forIn_cons, List.forIn_nil]
  refine wpAny_bind (wpAny_bind (wpAny_onRaise ?_)); show wpAny _ _ (Builtin.SmallTypes.nextOf (.ref i1) >>= _) _ _ _
  cases hx : xs[k1]? with
  | none =>
    refine wpAny_bind (wpAny_nextOf_list_end (s := { s with heap := g1 }) hh (h1.extBut b1.extBut D.i1z) (hl1.extBut b1.extBut D.l1z) hx fun g2 e b2 he => ?_)
    obtain ⟨oe, hoe, hce⟩ := he
    have z2 : IsZip g2 z TI TO .ellipsis := b2 _ _ D.i1z.symm z1
    have ne : e ≠ z := fun q => by subst q; rw [z2] at hoe; cases hoe; simp at hce
    exact wpAny_setField_rec z2 (by simp) fun g3 _ b3 => hE g3 e (fun c o c1 _ c3 _ q => b3.extBut _ _ c1 (b2 _ _ c3 (b1.extBut _ _ c1 q))) ⟨oe, b3.extBut _ _ ne hoe, hce⟩
  | some x =>
    have hy : ys[k2]? = none := by rcases hend with q | q; rw [hx] at q; cases q; exact q
    refine wpAny_bind (wpAny_nextOf_list_item (s := { s with heap := g1 }) (h1.extBut b1.extBut D.i1z) (hl1.extBut b1.extBut D.l1z) hx fun g2 j2 b2 => wpAny_pure ?_)
    have p2 : IsPair g2 TO a b := b2.extBut _ _ D.TOi1 (b1.extBut _ _ D.TOz hTO)
    refine wpAny_bind (wpAny_seqItems p2 rfl (wpAny_bind (wpAny_updateSeq_pair p2 fun g3 p3 b3 => wpAny_bind (wpAny_letGo (wpAny_pure ?_)))))
    refine wpAny_bind (wpAny_bind (wpAny_onRaise ?_)); show wpAny _ _ (Builtin.SmallTypes.nextOf (.ref i2) >>= _) _ _ _
    refine wpAny_bind (RZ.nextOf_tuple_end hh (((h2.extBut b1.extBut D.i2z).extBut b2.extBut D.i12.symm).extBut b3.extBut D.TOi2.symm) (((hl2.extBut b1.extBut D.l2z).extBut b2.extBut D.l2i1).extBut b3.extBut D.l2TO) hy fun g4 e b4 he => ?_)
    obtain ⟨oe, hoe, hce⟩ := he
    have z4 : IsZip g4 z TI TO .ellipsis := b4 _ _ D.i2z.symm (b3.extBut _ _ D.TOz.symm (b2.extBut _ _ D.i1z.symm z1))
    have ne : e ≠ z := fun q => by subst q; rw [z4] at hoe; cases hoe; simp at hce
    exact wpAny_setField_rec z4 (by simp) fun g5 _ b5 => hE g5 e (fun c o c1 c2 c3 c4 q => b5.extBut _ _ c1 (b4 _ _ c4 (b3.extBut _ _ c2 (b2.extBut _ _ c3 (b1.extBut _ _ c1 q))))) ⟨oe, b5.extBut _ _ ne hoe, hce⟩
theorem zm_next {Q : Option Value → Shared → Prop} (D : ZipApart z TI TO i1 i2 l1 l2) (hz : IsZip s.heap z TI TO .none) (hTI : IsPair s.heap TI (.ref i1) (.ref i2)) (hTO : IsPair s.heap TO a b) (h1 : s.heap.IsListIter i1 l1 k1) (h2 : s.heap.IsTupleIter i2 l2 k2)
    (hl1 : s.heap.IsList l1 xs) (hl2 : s.heap.IsTuple l2 ys) (hx : xs[k1]? = some x) (hy : ys[k2]? = some y)
    (hQ : ∀ h', IsZip h' z TI TO (rawInt s.heap.objs.size) → IsPair h' TO x y → h'.IsListIter i1 l1 (k1 + 1) → h'.IsTupleIter i2 l2 (k2 + 1) → IsPair h' s.heap.objs.size x y → h'.objs.size = s.heap.objs.size + 1 → ZKeep z TO i1 i2 s.heap h' → Q (some (.ref s.heap.objs.size)) { s with heap := h' }) : wpAny (model prog w) A (pyNext (.ref z)) Q E s := by
  have T : s.TypeIs (.ref z) "zip" := ⟨_, hz, rfl⟩
  unfold pyNext; exact wpAny_bind (wpAny_attempt (wpAny_callSpecial?_slot (name := Str.ofString "__next__") T F.slot_zip_next (wpAny_call_entry F.slot_zip_next T F.entry_zip_next (zm_item D hz hTI hTO h1 h2 hl1 hl2 hx hy fun h' a1 a2 a3 a4 a5 a6 a7 => wpAny_pure (hQ h' a1 a2 a3 a4 a5 a6 a7)) (F.args_zip_next_1 _))))
theorem zm_stop {Q : Option Value → Shared → Prop} (hh : A.handled = none) (D : ZipApart z TI TO i1 i2 l1 l2) (hz : IsZip s.heap z TI TO .none) (hTI : IsPair s.heap TI (.ref i1) (.ref i2)) (hTO : IsPair s.heap TO a b) (h1 : s.heap.IsListIter i1 l1 k1) (h2 : s.heap.IsTupleIter i2 l2 k2)
    (hl1 : s.heap.IsList l1 xs) (hl2 : s.heap.IsTuple l2 ys) (hend : xs[k1]? = none ∨ ys[k2]? = none) (hQ : ∀ h', ZKeep z TO i1 i2 s.heap h' → Q none { s with heap := h' }) : wpAny (model prog w) A (pyNext (.ref z)) Q E s := by
  have T : s.TypeIs (.ref z) "zip" := ⟨_, hz, rfl⟩
  unfold pyNext; refine wpAny_bind (wpAny_attempt (wpAny_callSpecial?_slot (name := Str.ofString "__next__") T F.slot_zip_next (wpAny_call_entry F.slot_zip_next T F.entry_zip_next (zm_end hh D hz hTI hTO h1 h2 hl1 hl2 hend fun h' e hk he => ?_) (F.args_zip_next_1 _))))
  obtain ⟨o, ho, hc⟩ := he; exact wpAny_bind (wpAny_isInstance (T := "StopIteration") (b := true) ⟨o, ho, hc⟩ isSubtype_stop (wpAny_pure (hQ _ hk)))
end
/-! ### zip(list, tuple) made -/
abbrev zmA (h : Heap) (l1 : Addr) : Heap := h.push { cls := .type "list_iterator", data := .fields #[.ref l1, .int 0 0] }
abbrev zmB (h : Heap) (l1 l2 : Addr) : Heap := (zmA h l1).push { cls := .type "tuple_iterator", data := .fields #[.ref l2, .int 0 0] }
abbrev zmC (h : Heap) (l1 l2 : Addr) : Heap := (zmB h l1 l2).push { cls := .type "tuple", data := .seq #[.ref h.objs.size, .ref (zmA h l1).objs.size] }
abbrev zmD (h : Heap) (l1 l2 : Addr) : Heap := (zmC h l1 l2).push { cls := .type "tuple", data := .seq #[.none, .none] }
abbrev zmE (h : Heap) (l1 l2 : Addr) : Heap := (zmD h l1 l2).push { cls := .type "zip", data := .fields #[.none, .bool false, .bool false, .ref (zmB h l1 l2).objs.size, .ref (zmC h l1 l2).objs.size] }
theorem zm_new (l1 l2 : Addr) (xs ys : Array Value) : Meets (Builtin.«zip.__new__» ⟨[.type "zip", .ref l1, .ref l2], []⟩) (fun _ R s => s.heap.IsList l1 xs ∧ s.heap.IsTuple l2 ys ∧ R (.ok (.ret (.ref (zmD s.heap l1 l2).objs.size))) { s with heap := zmE s.heap l1 l2 }) :=
  .of_wp fun prog w A R s h => by
    obtain ⟨hp, g, d, tk, os⟩ := s; obtain ⟨hl1, hl2, h⟩ := h; have hsub := sub_zip
    have L1 : Heap.IsList (Shared.heap ⟨hp, g, d, tk, os⟩) l1 xs := hl1
    have L2 : Heap.IsTuple (Shared.heap ⟨hp.push { cls := .type "list_iterator", data := .fields #[.ref l1, .int 0 0] }, g, d, tk, os⟩) l2 ys := Heap.IsTuple.push hl2 _
    wp_walk using wpAny_pyIter_list L1, wpAny_pyIter_tuple L2
    exact ⟨_, rfl, h⟩
theorem call_zm {prog : Program} {w : World} {A : Around} {E : Value → Shared → Prop} {s : Shared} {l1 l2 : Addr} {xs ys : Array Value} {Q : Value → Shared → Prop} (hl1 : s.heap.IsList l1 xs) (hl2 : s.heap.IsTuple l2 ys)
    (h : ∀ h', IsZip h' (s.heap.objs.size + 4) (s.heap.objs.size + 2) (s.heap.objs.size + 3) .none → IsPair h' (s.heap.objs.size + 2) (.ref s.heap.objs.size) (.ref (s.heap.objs.size + 1)) → IsPair h' (s.heap.objs.size + 3) .none .none → h'.IsListIter s.heap.objs.size l1 0 → h'.IsTupleIter (s.heap.objs.size + 1) l2 0 →
      (∀ c o, s.heap.get? c = some o → h'.get? c = some o) → Q (.ref (s.heap.objs.size + 4)) { s with heap := h' }) : wpAny (model prog w) A (call (.type "zip") [.ref l1, .ref l2]) Q E s := by
  refine callType_new F.called_zip (by decide) (F.typeCall_zip_2 _ _) (F.newCall_zip_2 _ _) (fun obj => F.args_object_init_3 obj _ _) F.entry_zip_new (zm_new l1 l2 xs ys) ⟨hl1, hl2, ?_⟩
  have n1 : (zmA s.heap l1).objs.size = s.heap.objs.size + 1 := Heap.size_push ..
  have n2 : (zmB s.heap l1 l2).objs.size = s.heap.objs.size + 2 := by rw [Heap.size_push, n1]
  have n3 : (zmC s.heap l1 l2).objs.size = s.heap.objs.size + 3 := by rw [Heap.size_push, n2]
  have n4 : (zmD s.heap l1 l2).objs.size = s.heap.objs.size + 4 := by rw [Heap.size_push, n3]
  have k5 : (zmE s.heap l1 l2).get? (zmD s.heap l1 l2).objs.size = some _ := Heap.get?_push_size _ rfl
  have k4 : (zmE s.heap l1 l2).get? (zmC s.heap l1 l2).objs.size = some _ := Heap.get?_push_of_some _ (Heap.get?_push_size _ rfl)
  have k3 : (zmE s.heap l1 l2).get? (zmB s.heap l1 l2).objs.size = some _ := Heap.get?_push_of_some _ (Heap.get?_push_of_some _ (Heap.get?_push_size _ rfl))
  have k2 : (zmE s.heap l1 l2).get? (zmA s.heap l1).objs.size = some _ := Heap.get?_push_of_some _ (Heap.get?_push_of_some _ (Heap.get?_push_of_some _ (Heap.get?_push_size _ rfl)))
  have k1 : (zmE s.heap l1 l2).get? s.heap.objs.size = some _ := Heap.get?_push_of_some _ (Heap.get?_push_of_some _ (Heap.get?_push_of_some _ (Heap.get?_push_of_some _ (Heap.get?_push_size _ rfl))))
  show _ ∧ _
  rw [n2, n3, n4] at k5; rw [n1, n2] at k3; rw [n3] at k4; rw [n1] at k2; rw [n4]
  exact ⟨⟨_, k5, rfl⟩, h _ k5 k3 k4 ⟨_, k1, rfl, rfl⟩ ⟨_, k2, rfl, rfl⟩ fun c o q => Heap.get?_push_of_some _ (Heap.get?_push_of_some _ (Heap.get?_push_of_some _ (Heap.get?_push_of_some _ (Heap.get?_push_of_some _ q))))⟩
/-! ### over the layer -/
def ItzM (K : PySem.W.Frag) (a b : Addr) : It :=
  ⟨fun i H => ∃ (xs ys : List V) (x y : V), SqL K H a xs ∧ SqT K H b ys ∧ xs[i]? = some x ∧ ys[i]? = some y, fun i H v H' => ∃ T x y, v = .ref T ∧ H T = none ∧ H' = upd H T (.tup [x, y]) ∧ (∀ xs, SqL K H a xs → xs[i]? = some x) ∧ ∀ ys, SqT K H b ys → ys[i]? = some y,
    fun i H => ∃ xs ys : List V, SqL K H a xs ∧ SqT K H b ys ∧ (xs.length ≤ i ∨ ys.length ≤ i)⟩
theorem turn_zm {P : Program} {w : World} {K : PySem.W.Frag} {elts : List Expr} {kk : Nat} {tpos : Pos} {a b z TI TO i1 i2 : Addr} (D : ZipApart z TI TO i1 i2 a b) :
    Turn P w K (.Tuple elts kk tpos) (ItzM K a b) [z, TI, TO, i1, i2] z (fun i h => IsZip h z TI TO .none ∧ IsPair h TI (.ref i1) (.ref i2) ∧ (∃ x y, IsPair h TO x y) ∧ h.IsListIter i1 a i ∧ h.IsTupleIter i2 b i) where
  mem := by simp
  obj := fun i h st c hc => by
    obtain ⟨hz, hTI, ⟨x, y, hTO⟩, ⟨o1, e1, _, d1⟩, ⟨o2, e2, _, d2⟩⟩ := st
    rcases (show c = z ∨ c = TI ∨ c = TO ∨ c = i1 ∨ c = i2 by simpa using hc) with q | q | q | q | q
    · rw [q]; exact ⟨_, hz, nofun⟩
    · rw [q]; exact ⟨_, hTI, nofun⟩
    · rw [q]; exact ⟨_, hTO, nofun⟩
    · rw [q]; exact ⟨o1, e1, fun v r => by rw [d1] at r; cases r⟩
    · rw [q]; exact ⟨o2, e2, fun v r => by rw [d2] at r; cases r⟩
  keep := fun i h h' ⟨hz, hTI, ⟨x, y, hTO⟩, h1, h2⟩ k => ⟨k z (by simp) _ hz, k TI (by simp) _ hTI, ⟨x, y, k TO (by simp) _ hTO⟩, h1.at fun o q => k i1 (by simp) o q, h2.at fun o q => k i2 (by simp) o q⟩
  item := by
    intro X hP hw hK hc i pins s σ H E I hf st hg
    subst hP hw hK
    obtain ⟨hz, hTI, ⟨x0, y0, hTO⟩, h1, h2⟩ := st
    obtain ⟨xs, ys, x, y, hqx, hqy, hx, hy⟩ := hg
    obtain ⟨its, rv, pl, _⟩ := I.list hqx
    obtain ⟨its2, rv2, pt, _⟩ := I.tuple hqy
    obtain ⟨u, hu, ru⟩ := rv.get hx
    obtain ⟨u2, hu2, ru2⟩ := rv2.get hy
    have zlt : z < s.heap.objs.size := Heap.lt_size hz
    refine zm_next D hz hTI hTO h1 h2 pl.isList pt (x := u) (y := u2) (by simpa using hu) (by simpa using hu2) fun h' z' TO' h1' h2' hT hsz hk => ⟨_, rfl, wpAny_letOwnedTupleGo_zip (s := { s with heap := h' }) z' fun h'' z'' sb => ?_⟩
    have T2 : h''.get? s.heap.objs.size = some { cls := .type "tuple", data := .seq #[u, u2] } := (sb.2 _ (Nat.ne_of_gt zlt)).trans hT
    have I1 : Inv X pins σ (upd H s.heap.objs.size (.tup [x, y])) { s with heap := h'' } := I.turnedNew (t' := s.toks) (ch := [z, TI, TO, i1, i2]) (fun c o hb q => (sb.2 c (fun r => hb (by simp [r]))).trans (hk c o (fun r => hb (by simp [r])) (fun r => hb (by simp [r])) (fun r => hb (by simp [r])) (fun r => hb (by simp [r])) q)) hf (Nat.le_refl _)
      ⟨by show 2 ≤ sizeLine; decide, [u, u2], .cons ru (.cons ru2 .nil), ⟨_, T2, rfl, _, rfl⟩⟩
    refine ⟨.ref s.heap.objs.size, _, I1, rfl, ⟨_, x, y, rfl, I.hok.fresh (Nat.le_refl _), rfl, fun l hl => by rw [I.list_inj hl hqx]; exact hx, fun l hl => by rw [I.tuple_inj hl hqy]; exact hy⟩, ⟨z'', (sb.2 _ D.TIz).trans (hk _ _ D.TIz D.TITO D.TIi1 D.TIi2 hTI), ⟨u, u2, (sb.2 _ D.TOz).trans TO'⟩, h1'.at fun o q => (sb.2 _ D.i1z).trans q, h2'.at fun o q => (sb.2 _ D.i2z).trans q⟩, fun c hcm => ?_⟩
    have lt : c < s.heap.objs.size := by
      rcases (show c = z ∨ c = TI ∨ c = TO ∨ c = i1 ∨ c = i2 by simpa using hcm) with q | q | q | q | q
      · rw [q]; exact zlt
      · rw [q]; exact Heap.lt_size hTI
      · rw [q]; exact Heap.lt_size hTO
      · rw [q]; obtain ⟨_, e, _⟩ := h1; exact Heap.lt_size e
      · rw [q]; obtain ⟨_, e, _⟩ := h2; exact Heap.lt_size e
    rw [upd_ne (Nat.ne_of_lt lt)]; exact (hf c hcm).1
  done := by
    intro X hP hw hK hc i pins s σ H E I hf st hg
    subst hP hw hK
    obtain ⟨hz, hTI, ⟨x0, y0, hTO⟩, h1, h2⟩ := st
    obtain ⟨xs, ys, hqx, hqy, hend⟩ := hg
    obtain ⟨its, rv, pl, _⟩ := I.list hqx
    obtain ⟨its2, rv2, pt, _⟩ := I.tuple hqy
    have n1 := rv.length; have n2 := rv2.length
    refine zm_stop (I.ok.hd hc) D hz hTI hTO h1 h2 pl.isList pt (hend.elim (fun q => .inl (by simp; omega)) fun q => .inr (by simp; omega)) fun h' hk => ⟨rfl, I.turnedL (t' := s.toks) (ch := [z, TI, TO, i1, i2]) (fun c o hb q => hk c o (fun r => hb (by simp [r])) (fun r => hb (by simp [r])) (fun r => hb (by simp [r])) (fun r => hb (by simp [r])) q) hf⟩
  self := fun A i s Q E st h => wpAny_pyIter_zip st.1 h
def iZipM (K : PySem.W.Frag) (ta : TA) : TI := fun σ H R => ta σ H fun vs H1 => ∃ a b xs ys, vs = [.ref a, .ref b] ∧ SqL K H1 a xs ∧ SqT K H1 b ys ∧ R (ItzM K a b) H1
theorem pi_zipM {X : Cx} {e e2 : Expr} {ta : TA} {p pos tpos : Pos} {elts : List Expr} {kk : Nat} (hg : Gl X "zip") (hm : X.mg "zip" = none) (ha : PA X [e, e2] ta) (hs : starEach [e, e2] X.env = (false, eval e X.env) :: starEach [e2] X.env := by rfl)
    (hpl : (backTo pos (starEach [e2] X.env)).any (·.1) = false := by rfl) : PI X (.Tuple elts kk tpos) (.Call (.Name "zip" p) [e, e2] [] pos) (iZipM X.K ta) := by
  refine ⟨fun pins s σ H R I h => ?_⟩
  refine Call_ (ld_blt I hg hm PyProof.Rows.boot_zip (PyProof.Rows.callWith_type1 (thn (ha.run pos pins s σ H _ I h) fun us s1 ⟨vs, H1, I1, r1, q1⟩ => ?_) hs hpl))
  obtain ⟨a, b, xs, ys, ex, hqx, hqy, q⟩ := q1
  subst ex
  cases r1 with
  | cons r rr =>
    cases rr with
    | cons r' rr =>
      cases rr; cases r; cases r'
      have fr : ∀ c, c ∈ [s1.heap.objs.size + 4, s1.heap.objs.size + 2, s1.heap.objs.size + 3, s1.heap.objs.size, s1.heap.objs.size + 1] → FpOk X pins H1 c := fun c hcm => by
        have le : s1.heap.objs.size ≤ c := by
          simp only [List.mem_cons, List.not_mem_nil, or_false] at hcm
          omega
        exact I1.fpOk le (I1.hok.fresh le)
      obtain ⟨its, rv, pl, _⟩ := I1.list hqx
      obtain ⟨its2, rv2, pt, _⟩ := I1.tuple hqy
      obtain ⟨o2, ho2, _⟩ := id pt
      refine call_zm pl.isList (show s1.heap.IsTuple b its2.toArray from pt) fun h' hz hTI hTO h1 h2 hk => wpAny_pyIter_zip hz ?_
      exact ⟨s1.heap.objs.size + 4, [s1.heap.objs.size + 4, s1.heap.objs.size + 2, s1.heap.objs.size + 3, s1.heap.objs.size, s1.heap.objs.size + 1], _, _, H1, rfl, I1.kept (t' := s1.toks) hk, turn_zm (PySem.W.ktu_apart s1.heap.objs.size a b pl.lt (Heap.lt_size ho2)), ⟨hz, hTI, ⟨_, _, hTO⟩, h1, h2⟩, fr, q⟩
end Cs

set_option Elab.async false
set_option linter.all false
set_option maxRecDepth 100000
set_option maxHeartbeats 4000000
/-! [e for x in xs if t] by the values of e and t. -/
namespace Cs
open PySem L2
def fil (n : Nat) (ok : Nat → Bool) (vl : Nat → V) : List V := ((List.range n).filter ok).map vl
theorem fil_succ (n : Nat) (ok : Nat → Bool) (vl : Nat → V) : fil (n + 1) ok vl = if ok n = true then fil n ok vl ++ [vl n] else fil n ok vl := by
  unfold fil
  rw [List.range_succ, List.filter_append, List.map_append]
  by_cases h : ok n = true
  · rw [if_pos h]
    simp [h]
  · rw [if_neg h]
    simp [h]
theorem fil_len (n : Nat) (ok : Nat → Bool) (vl : Nat → V) : (fil n ok vl).length ≤ n := by
  unfold fil
  rw [List.length_map]
  exact Nat.le_trans (List.length_filter_le _ _) (by rw [List.length_range]; exact Nat.le_refl _)
theorem lc_fil {J : It} {n : Nat} {G : Hp → Prop} {Y : Nat → Hp → V → Hp → Prop} (wk : Walk J n G Y) {g : TG} {tt : TT} {te : TE} {vs : List Nat} {σ : L2.St} {H1 : Hp} {D : Addr} {Qd : Hp → Prop} (ok : Nat → Bool) (vl : Nat → V) (hD : H1 D = none) (hn : n ≤ 100000)
    (hG : ∀ H', Same H1 H' → G H')
    (hs : ∀ (i : Nat) (x : V) (Ha Hb : Hp), i < n → Same H1 Ha → Y i Ha x Hb → ∀ (N1 : V → Hp → Prop) (N0 : Hp → Prop), (ok i = true → ∀ H4, Same Ha H4 → N1 (vl i) H4) → (ok i = false → ∀ H4, Same Ha H4 → N0 H4) →
      g x (wipe σ vs) Hb fun σ2 H2 => wipe σ2 vs = wipe σ vs ∧ tt σ2 H2 fun b H3 => if b = true then te σ2 H3 N1 else N0 H3)
    (k : ∀ H', Same H1 H' → H' D = some (.lst (fil n ok vl)) → Qd H') :
    ∃ W : Nat → Nat → Hp → Prop, (∃ m, W 0 m (upd H1 D (.lst []))) ∧ ∀ i m H, W i m H →
      (J.stop i H ∧ Qd H) ∨ (J.go i H ∧ ∃ Nx : Hp → Prop, (∀ H', Nx H' → ∃ m', m' < m ∧ W (i + 1) m' H') ∧ ∀ x H', J.yld i H x H' → g x (wipe σ vs) H' fun σ2 H2 => wipe σ2 vs = wipe σ vs ∧ tt σ2 H2 fun b H3 =>
        if b = true then te σ2 H3 fun y H4 => ∃ acc, H4 D = some (.lst acc) ∧ acc.length < sizeLine ∧ Nx (upd H4 D (.lst (acc ++ [y]))) else Nx H3) := by
  refine lc_it wk (fun i H' => Same H1 H' ∧ H' D = some (.lst (fil i ok vl))) ⟨same_new hD, upd_same⟩ (fun i H' _ h => hG H' h.1) ?_ fun H' h => k H' h.1 h.2
  rintro i x Ha Hb hi ⟨s', hD'⟩ hy
  refine hs i x Ha Hb hi s' hy _ _ (fun e H4 s4 => ⟨_, s4 _ _ hD', ?_, fun b o q => ?_, ?_⟩) fun e H4 s4 => ⟨s'.trans s4, ?_⟩
  · have := fil_len i ok vl
    exact Nat.lt_of_le_of_lt (show _ ≤ 100000 by omega) (by decide)
  · rw [upd_ne (ne_of_none q hD)]
    exact s4 _ _ (s' _ _ q)
  · rw [upd_same, fil_succ, if_pos e]
  · rw [fil_succ, if_neg (by rw [e]; decide)]
    exact s4 _ _ hD'
theorem walk_zm {K : PySem.W.Frag} {a b : Addr} {xs ys : List V} {n : Nat} (hn : n = min xs.length ys.length) : Walk (ItzM K a b) n (fun H => SqL K H a xs ∧ SqT K H b ys) (YPair (fun i => xs[i]?) (fun i => ys[i]?)) := by
  subst hn
  refine ⟨fun i _ hi q => ?_, fun _ q => ⟨xs, ys, q.1, q.2, by omega⟩, fun i H v H' _ q y => ?_⟩
  · exact ⟨xs, ys, xs[i]'(by omega), ys[i]'(by omega), q.1, q.2, List.getElem?_eq_getElem (by omega), List.getElem?_eq_getElem (by omega)⟩
  · obtain ⟨T, x, z, h1, h2, h3, h4, h5⟩ := y
    exact ⟨T, x, z, h1, h2, h3, h4 xs q.1, h5 ys q.2⟩
theorem it_gen {J : It} {n : Nat} {G : Hp → Prop} {Y : Nat → Hp → V → Hp → Prop} (w : Walk J n G Y) {H0 : Hp} {Qd : Hp → Prop} {B : V → Hp → (Hp → Prop) → Prop} (Pv : Nat → Hp → Prop) (h0 : Pv 0 H0) (hG : ∀ i H, i ≤ n → Pv i H → G H)
    (hs : ∀ i x H H', i < n → Pv i H → Y i H x H' → B x H' (Pv (i + 1))) (hd : ∀ H, Pv n H → Qd H) :
    ∃ W : Nat → Nat → Hp → Prop, (∃ m, W 0 m H0) ∧ ∀ i m H, W i m H → (J.stop i H ∧ Qd H) ∨ (J.go i H ∧ ∃ Nx : Hp → Prop, (∀ H', Nx H' → ∃ m', m' < m ∧ W (i + 1) m' H') ∧ ∀ x H', J.yld i H x H' → B x H' Nx) := by
  refine ⟨fun i m H => m = n - i ∧ i ≤ n ∧ Pv i H, ⟨n, by simp, Nat.zero_le _, h0⟩, ?_⟩
  rintro i m H ⟨rfl, hi, p⟩
  have q := hG i H hi p
  by_cases hlt : i < n
  · exact .inr ⟨w.goes i H hlt q, Pv (i + 1), fun H' p' => ⟨n - (i + 1), by omega, rfl, hlt, p'⟩, fun x H' y => hs i x H H' hlt p (w.yields i H x H' hlt q y)⟩
  · have e : i = n := by omega
    subst e
    exact .inl ⟨w.stops H q, hd H p⟩
end Cs

set_option Elab.async false
set_option linter.all false
set_option maxRecDepth 100000
set_option maxHeartbeats 8000000
set_option pp.maxSteps 700
/-! Doors: how many begin with one of the words. -/
namespace Dr
open PySem L2 Cs
theorem pi_or {X : Cx} {tg iter : Expr} {w1 w2 : TI} (h1 : PI X tg iter w1) (h2 : PI X tg iter w2) : PI X tg iter (fun σ H R => w1 σ H R ∨ w2 σ H R) := ⟨fun pins s σ H R I h => h.elim (h1.run pins s σ H R I) (h2.run pins s σ H R I)⟩
def okOf {α : Type} (xs : List α) (p : α → Bool) (i : Nat) : Bool := match xs[i]? with
  | some x => p x
  | none => false
def vlOf {α : Type} (xs : List α) (v : α → V) (i : Nat) : V := match xs[i]? with
  | some x => v x
  | none => .non
theorem fil_take {α : Type} (xs : List α) (p : α → Bool) (v : α → V) : ∀ n, n ≤ xs.length → fil n (okOf xs p) (vlOf xs v) = ((xs.take n).filter p).map v
  | 0, _ => by rw [List.take_zero]; rfl
  | n + 1, h => by
    have hn : n < xs.length := h
    rw [fil_succ, fil_take xs p v n (Nat.le_of_succ_le h), List.take_succ, List.getElem?_eq_getElem hn, List.filter_append, List.map_append]
    have e1 : okOf xs p n = p xs[n] := by unfold okOf; rw [List.getElem?_eq_getElem hn]
    have e2 : vlOf xs v n = v xs[n] := by unfold vlOf; rw [List.getElem?_eq_getElem hn]
    rw [e1, e2]
    by_cases q : p xs[n] = true
    · rw [if_pos q]; simp [q]
    · rw [if_neg q]; simp [q]
theorem fil_list {α : Type} (xs : List α) (p : α → Bool) (v : α → V) : fil xs.length (okOf xs p) (vlOf xs v) = (xs.filter p).map v := by
  rw [fil_take xs p v _ (Nat.le_refl _), List.take_length]
theorem fil_count {α : Type} (xs : List α) (p : α → Bool) (vl : Nat → V) : (fil xs.length (okOf xs p) vl).length = (xs.filter p).length := by
  have e := congrArg List.length (fil_list xs p fun _ => V.non)
  unfold fil at e ⊢
  rw [List.length_map, List.length_map] at e
  rw [List.length_map, e]
theorem flatS : ∀ zs : List Str, (zs.map V.str).all flatV = true
  | [] => rfl
  | z :: zs => by rw [List.map_cons, List.all_cons, flatS zs]; rfl
/-- tuples that begin with a text -/
def HdAt (H : Hp) (xs : List V) (hs : List Str) : Prop := Paired (fun (x : V) (z : Str) => ∃ r ys, x = .ref r ∧ H r = some (.tup (.str z :: ys))) xs hs
theorem HdAt.keep {H H' : Hp} {xs : List V} {hs : List Str} (k : TupK H H') (h : HdAt H xs hs) : HdAt H' xs hs := L2.Paired.mapP h fun _ _ ⟨r, ys, e, q⟩ => ⟨r, ys, e, k _ _ q⟩
def cntIn (hs ws : List Str) : Nat := (hs.filter fun z => decide (z ∈ ws)).length
section
variable {P : Program} {w : World} {K : PySem.W.Frag} {mg : Str → Option Value} {base : Heap}
def spHowMany (K : PySem.W.Frag) : Sp := fun vs H Q _ => ∃ (p wq : Addr) (xs : List V) (hs ws : List Str), vs = [.ref p, .ref wq] ∧ (H p = some (.lst xs) ∨ H p = some (.tup xs)) ∧ HdAt H xs hs ∧ xs.length ≤ 1000 ∧ (∀ H', Same H H' → SqT K H' wq (ws.map V.str)) ∧ ∀ H', Same H H' → Q (.int (cntIn hs ws : Nat)) H'
theorem ok_how_many {f : Addr} {fd : FuncData} (F : Fun K "how_many" "how_many" s_how_many f fd) (g : Bi mg) : FnOk P w K mg base CX0 1 f fd ["parts", "words"] (spHowMany K) := by
  refine F.ok sc_how_many (fun vs H Q E h => ?_) (fun cdv A outer s H vs Q E hr h => ?_)
  · obtain ⟨_, _, _, _, _, rfl, _⟩ := h
    rfl
  · obtain ⟨p, wq, xs, hs, ws, rfl, hp, hh, hl, hw, k⟩ := h
    have hlen : xs.length = hs.length := paired_lenD hh
    refine ⟨_, (pss_one (ps_ret (pe_callB call_len (by rfl) g.len PySem.boot_len (pa_cons (pe_lc (own := [("part", 2)]) (g := gName 2) (tt := (tTest (tOp (rIn K false) (tOp (rIxT K) (tVar 2) (tC (.int 0))) (tVar 1))))  (by rfl) sc_how_many.nd (pi_or (pi_list (pv 0)) (pi_tup (pv 0))) (blkOk_by (own := [("part", 2)]) (N := ["parts", "words", "part"]) (sc := defScope s_how_many) (by decide +kernel)) (fun _ _ _ _ _ => (pg_name (i := 2) sc_how_many.nd rfl (Or.inl rfl))) (fun _ _ _ _ _ => (pts_one (pt_cmpR op_in_seq (pe_ix ix_tup (pv 2) pe_int (fun _ _ => rfl)) (pv 1) (by rfl)))) (fun _ _ _ _ _ => (pv 2))) pa_nil)))), ?_⟩
    have one : ∀ (i : Nat) (x : V) (Ha : Hp), i < hs.length → Same H Ha → xs[i]? = some x → ∀ (N1 : V → Hp → Prop) (N0 : Hp → Prop), (okOf hs (fun z => decide (z ∈ ws)) i = true → ∀ H4, Same Ha H4 → N1 (vlOf xs (fun v => v) i) H4) → (okOf hs (fun z => decide (z ∈ ws)) i = false → ∀ H4, Same Ha H4 → N0 H4) →
        ∃ r z ys, x = .ref r ∧ Ha r = some (.tup (.str z :: ys)) ∧ (z ∈ ws → N1 x Ha) ∧ (z ∉ ws → N0 Ha) := by
      intro i x Ha hi sa hx N1 N0 h1 h0
      obtain ⟨z, hz, r, ys, rfl, hr⟩ := paired_get hh hx
      have e1 : okOf hs (fun z => decide (z ∈ ws)) i = decide (z ∈ ws) := by unfold okOf; rw [hz]
      have e2 : vlOf xs (fun v => v) i = .ref r := by unfold vlOf; rw [hx]
      rw [e1] at h1 h0
      rw [e2] at h1
      exact ⟨r, z, ys, rfl, sa _ _ hr, fun c => h1 (decide_eq_true c) _ (Same.refl _), fun c => h0 (decide_eq_false c) _ (Same.refl _)⟩
    have fin : ∀ (D : Addr) (H' : Hp), Same H H' → H' D = some (.lst (fil hs.length (okOf hs fun z => decide (z ∈ ws)) (vlOf xs fun v => v))) → (fil hs.length (okOf hs fun z => decide (z ∈ ws)) (vlOf xs fun v => v)).length = cntIn hs ws := fun D H' _ _ => fil_count _ _ _
    rcases hp with hp | hp
    · refine .inl ⟨_, rfl, p, rfl, ⟨_, SqL.of hp⟩, fun D hD => lc_fil (walk_list (xs := xs)) (okOf hs fun z => decide (z ∈ ws)) (vlOf xs fun v => v) hD (by omega) (fun H2 s2 => SqL.of (s2 _ _ hp)) ?_ ?_⟩
      · rintro i x Ha Hb hi sa ⟨rfl, hx⟩ N1 N0 h1 h0
        obtain ⟨r, z, ys, rfl, hr, q1, q0⟩ := one i x Hb (by omega) sa hx N1 N0 h1 h0
        refine ⟨rfl, ?_⟩
        refine ⟨_, rfl, r, _, 0, _, rfl, rfl, SqT.of hr, atI_nat (j := 0) rfl, _, rfl, wq, _, rfl, .inr (hw _ sa), rfl, flatS _, _, rfl, ?_⟩
        show if inV (.str z) (ws.map V.str) = true then _ else _
        rw [inV_strs]
        by_cases c : z ∈ ws
        · rw [decide_eq_true c]
          exact iteT ⟨_, rfl, q1 c⟩
        · rw [decide_eq_false c]
          exact iteF (q0 c)
      · intro H' s' hD'
        rw [hlen] at hD'
        refine ⟨_, _, rfl, .inl ⟨_, SqL.of hD', rfl⟩, ?_⟩
        rw [fil_count]
        exact k H' s'
    · refine .inr ⟨_, rfl, p, rfl, ⟨_, SqT.of hp⟩, fun D hD => lc_fil (walk_tup (xs := xs)) (okOf hs fun z => decide (z ∈ ws)) (vlOf xs fun v => v) hD (by omega) (fun H2 s2 => SqT.of (s2 _ _ hp)) ?_ ?_⟩
      · rintro i x Ha Hb hi sa ⟨rfl, hx⟩ N1 N0 h1 h0
        obtain ⟨r, z, ys, rfl, hr, q1, q0⟩ := one i x Hb (by omega) sa hx N1 N0 h1 h0
        refine ⟨rfl, ?_⟩
        refine ⟨_, rfl, r, _, 0, _, rfl, rfl, SqT.of hr, atI_nat (j := 0) rfl, _, rfl, wq, _, rfl, .inr (hw _ sa), rfl, flatS _, _, rfl, ?_⟩
        show if inV (.str z) (ws.map V.str) = true then _ else _
        rw [inV_strs]
        by_cases c : z ∈ ws
        · rw [decide_eq_true c]
          exact iteT ⟨_, rfl, q1 c⟩
        · rw [decide_eq_false c]
          exact iteF (q0 c)
      · intro H' s' hD'
        rw [hlen] at hD'
        refine ⟨_, _, rfl, .inl ⟨_, SqL.of hD', rfl⟩, ?_⟩
        rw [fil_count]
        exact k H' s'
end
end Dr

set_option Elab.async false
set_option linter.all false
set_option maxRecDepth 100000
set_option maxHeartbeats 8000000
set_option pp.maxSteps 700
/-! Doors: steps, their tests and parts. -/
namespace Dr
open PySem L2 Cs
def TestD.word : TestD → Str
  | .row _ => "row"
  | .sum .. => "sum"
def asks : TestD → Bool
  | .row _ => false
  | .sum o _ _ _ => o
theorem TestAt.two {H : Hp} {v : V} {t : TestD} (h : TestAt H v t) : ∃ r y ys, v = .ref r ∧ H r = some (.tup (.str t.word :: y :: ys)) ∧ (∀ o ks sg n, t = .sum o ks sg n → y = .bl o) := by
  cases t with
  | row ks => obtain ⟨p, q, rfl, h1, h2⟩ := h; exact ⟨p, _, _, rfl, h1, fun _ _ _ _ e => by cases e⟩
  | sum o ks sg n => obtain ⟨p, q, rfl, h1, h2⟩ := h; exact ⟨p, _, _, rfl, h1, fun _ _ _ _ e => by cases e; rfl⟩
inductive StepD where
  | hold
  | look (ts : List TestD)
  | deed (ps : List PartD) (ts : List TestD)
def StepD.word : StepD → Str
  | .hold => "hold"
  | .look _ => "look"
  | .deed _ _ => "do"
def StepD.tests : StepD → List TestD
  | .hold => []
  | .look ts => ts
  | .deed _ ts => ts
def StepD.parts : StepD → List PartD
  | .deed ps _ => ps
  | _ => []
def PartsAt (H : Hp) (v : V) (ts : List PartD) : Prop := ∃ p ws, v = .ref p ∧ H p = some (.tup ws) ∧ Paired (PartAt H) ws ts
theorem PartsAt.keep {H H' : Hp} {v : V} {ts : List PartD} (k : TupK H H') (h : PartsAt H v ts) : PartsAt H' v ts := by
  obtain ⟨p, ws, e, h1, h2⟩ := h
  exact ⟨p, ws, e, k _ _ h1, L2.Paired.mapP h2 fun _ _ r => r.keep k⟩
def StepAt (H : Hp) (v : V) : StepD → Prop
  | .hold => ∃ p, v = .ref p ∧ H p = some (.tup [.str "hold"])
  | .look ts => ∃ p y, v = .ref p ∧ H p = some (.tup [.str "look", y]) ∧ TestsAt H y ts
  | .deed ps ts => ∃ p x y, v = .ref p ∧ H p = some (.tup [.str "do", x, y]) ∧ PartsAt H x ps ∧ TestsAt H y ts
theorem StepAt.keep {H H' : Hp} {v : V} {t : StepD} (k : TupK H H') (h : StepAt H v t) : StepAt H' v t := by
  cases t with
  | hold => obtain ⟨p, e, h1⟩ := h; exact ⟨p, e, k _ _ h1⟩
  | look ts => obtain ⟨p, y, e, h1, h2⟩ := h; exact ⟨p, y, e, k _ _ h1, h2.keep k⟩
  | deed ps ts => obtain ⟨p, x, y, e, h1, h2, h3⟩ := h; exact ⟨p, x, y, e, k _ _ h1, h2.keep k, h3.keep k⟩
theorem StepAt.ne {H : Hp} {v : V} {t : StepD} (h : StepAt H v t) : v ≠ .non := by
  cases t with
  | hold => obtain ⟨p, rfl, _⟩ := h; exact fun e => by cases e
  | look ts => obtain ⟨p, y, rfl, _⟩ := h; exact fun e => by cases e
  | deed ps ts => obtain ⟨p, x, y, rfl, _⟩ := h; exact fun e => by cases e
theorem StepAt.hd {H : Hp} {v : V} {t : StepD} (h : StepAt H v t) : ∃ r ys, v = .ref r ∧ H r = some (.tup (.str t.word :: ys)) := by
  cases t with
  | hold => obtain ⟨p, rfl, h1⟩ := h; exact ⟨p, _, rfl, h1⟩
  | look ts => obtain ⟨p, y, rfl, h1, _⟩ := h; exact ⟨p, _, rfl, h1⟩
  | deed ps ts => obtain ⟨p, x, y, rfl, h1, _⟩ := h; exact ⟨p, _, rfl, h1⟩
theorem PartAt.hd {H : Hp} {v : V} {t : PartD} (h : PartAt H v t) : ∃ r ys, v = .ref r ∧ H r = some (.tup (.str t.word :: ys)) := by
  cases t with
  | join => obtain ⟨p, rfl, h1⟩ := h; exact ⟨p, _, rfl, h1⟩
  | new k => obtain ⟨p, rfl, h1⟩ := h; exact ⟨p, _, rfl, h1⟩
  | kinds w ks af => obtain ⟨p, q, rfl, h1, _⟩ := h; exact ⟨p, _, rfl, h1⟩
  | kind w k af => obtain ⟨p, rfl, h1⟩ := h; exact ⟨p, _, rfl, h1⟩
theorem TestAt.hd {H : Hp} {v : V} {t : TestD} (h : TestAt H v t) : ∃ r ys, v = .ref r ∧ H r = some (.tup (.str t.word :: ys)) := by
  obtain ⟨r, y, ys, e, h1, _⟩ := h.two
  exact ⟨r, _, e, h1⟩
theorem hd_of {β : Type} {R : Hp → V → β → Prop} {wd : β → Str} (hh : ∀ H v b, R H v b → ∃ r ys, v = .ref r ∧ H r = some (.tup (.str (wd b) :: ys))) {H : Hp} : ∀ {xs : List V} {bs : List β}, Paired (R H) xs bs → HdAt H xs (bs.map wd)
  | _, _, .nil => .nil
  | _, _, .cons h t => .cons (hh _ _ _ h) (hd_of hh t)
section
variable {P : Program} {w : World} {K : PySem.W.Frag} {mg : Str → Option Value} {base : Heap}
def spAsksOther : Sp := fun vs H Q _ => ∃ (v : V) (ts : List TestD), vs = [v] ∧ TestsAt H v ts ∧ ts.length ≤ 1000 ∧ ∀ H', Same H H' → Q (.bl (ts.any asks)) H'
theorem ok_asks_other {f : Addr} {fd : FuncData} (F : Fun K "asks_other" "asks_other" s_asks_other f fd) (g : Bi mg) (nA : mg "any" = none) : FnOk P w K mg base CX0 1 f fd ["tests"] spAsksOther := by
  refine F.ok sc_asks_other (fun vs H Q E h => ?_) (fun cdv A outer s H vs Q E hr h => ?_)
  · obtain ⟨_, _, rfl, _⟩ := h
    rfl
  · obtain ⟨v, ts, rfl, ⟨p, ws, rfl, hp, hw⟩, hl, k⟩ := h
    have hlen := paired_lenD hw
    refine ⟨_, (pss_one (ps_ret (pe_callB (cr_any rfl) (by rfl) nA (by decide +kernel) (pa_cons (pe_lc (own := [("test", 1)]) (g := gName 1) (te := (tAndV (tOp _ (tOp (rIxT K) _ _) _) (tOp (rIxT K) _ _)))  (by rfl) sc_asks_other.nd (pi_tup (pv 0)) (blkOk_by (own := [("test", 1)]) (N := ["tests", "test"]) (sc := defScope s_asks_other) (by decide +kernel)) (fun _ _ _ _ _ => (pg_name (i := 1) sc_asks_other.nd rfl (Or.inl rfl))) (fun _ _ _ _ _ => pts_nil) (fun _ _ _ _ _ => (pe_and (pe_cmpR op_eq (pe_ix ix_tup (pv 1) pe_int (fun _ _ => rfl)) pe_str (nomark _)) (pe_one (pe_ix ix_tup (pv 1) pe_int (fun _ _ => rfl)))))) pa_nil)))), ?_⟩
    refine ⟨_, rfl, p, rfl, ⟨_, SqT.of hp⟩, fun D hD => lc_valsT (ys := ts.map fun t => V.bl (asks t)) (by rw [List.length_map, hlen]) hp hD (by omega) (fun _ => rfl) (fun i x y hx hy H' s' Qe qk => ?_) fun H2 s2 hD2 => ?_⟩
    · obtain ⟨t, ht, hr⟩ := paired_get hw hx
      rw [List.getElem?_map, ht] at hy
      obtain rfl := Option.some.inj hy
      obtain ⟨r, y, ys, rfl, hr1, hy1⟩ := hr.two
      refine ⟨_, rfl, r, _, 0, _, rfl, rfl, SqT.of (s' _ _ hr1), atI_nat (j := 0) rfl, rfl, _, rfl, ?_⟩
      have q := qk _ (Same.refl H')
      cases t with
      | row ks =>
        rw [show decide (V.str (TestD.row ks).word = V.str "sum") = false from by show decide (V.str (("row" : String) : Str) = V.str "sum") = false; decide +kernel]
        exact iteF q
      | sum o ks sg n =>
        rw [show decide (V.str (TestD.sum o ks sg n).word = V.str "sum") = true from decide_eq_true rfl]
        obtain rfl := hy1 _ _ _ _ rfl
        exact iteT ⟨_, rfl, r, _, 1, _, rfl, rfl, SqT.of (s' _ _ hr1), atI_nat (j := 1) rfl, q⟩
    · refine ⟨D, ts.map asks, rfl, SqL.of (by rw [hD2, List.map_map]; rfl), ?_⟩
      have ea : (ts.map asks).any id = ts.any asks := by rw [List.any_map]; rfl
      rw [ea]
      exact k _ s2
end
end Dr

set_option Elab.async false
set_option linter.all false
set_option maxRecDepth 100000
set_option maxHeartbeats 8000000
set_option pp.maxSteps 700
/-! Doors: lines that begin with do. -/
namespace Dr
open PySem L2 Cs
def RG : List Str := ["row", "give"]
def endDo (ps : List PartD) (ts : List TestD) : Option StepD := if cntIn (ps.map PartD.word) RG ≤ 1 ∧ cntIn (ps.map PartD.word) CROSS ≤ 1 ∧ ¬ (cntIn (ps.map PartD.word) CROSS = 0 ∧ ts.any asks = true) then some (.deed ps ts) else none
def readDoG (gs : List (List Str)) (os : List (Option PartD)) : Option StepD := if gs.length ≤ 2 ∧ os.length ≤ 4 ∧ os.all Option.isSome = true then
    (if gs.length = 2 then readTests (gs.getD 1 []) else some []).bind fun ts => endDo (os.filterMap id) ts
  else none
def readDo (zs : List Str) : Option StepD := readDoG (splitAt "if" zs) ((splitAt "then" ((splitAt "if" zs).headD [])).map readPart)
theorem readTests_len {zs : List Str} {ts : List TestD} (h : readTests zs = some ts) : ts.length ≤ 4 := by
  unfold readTests at h
  dsimp only at h
  split at h
  · next c =>
    cases h
    exact Nat.le_trans (List.length_filterMap_le _ _) c.1
  · cases h
section
variable {P : Program} {w : World} {K : PySem.W.Frag} {mg : Str → Option Value} {base : Heap}
def spReadDo : Sp := fun vs H Q _ => ∃ (a : Addr) (zs : List Str), vs = [.ref a] ∧ H a = some (.lst (zs.map V.str)) ∧ TokS zs ∧ (readDo zs = none → ∀ H', Same H H' → Q .non H') ∧ (∀ t, readDo zs = some t → ∀ v H', Same H H' → StepAt H' v t → Q v H')
theorem ok_read_do {f fSp fRp fRs fHm fAo rC : Addr} {fd fdSp fdRp fdRs fdHm fdAo : FuncData} (F : Fun K "read_do" "read_do" s_read_do f fd) (g : Bi mg) (FSp : Def P w K mg base CX0 1 "split_at" ["tokens", "word"] spSplitAt fSp fdSp)
    (FRp : Def P w K mg base CX0 5 "read_part" ["tokens"] spReadPart fRp fdRp) (FRs : Def P w K mg base CX0 5 "read_tests" ["tokens"] spReadTests fRs fdRs) (FHm : Def P w K mg base CX0 1 "how_many" ["parts", "words"] (spHowMany K) fHm fdHm) (FAo : Def P w K mg base CX0 1 "asks_other" ["tests"] spAsksOther fAo fdAo)
    (mCR : mg "CROSSING" = some (.ref rC)) (hCR : ∀ H : Hp, SqT K H rC (CROSS.map V.str)) : FnOk P w K mg base CX0 6 f fd ["tokens"] spReadDo := by
  obtain ⟨GSp, mSp, _, bSp⟩ := id FSp
  obtain ⟨GRp, mRp, _, bRp⟩ := id FRp
  obtain ⟨GRs, mRs, _, bRs⟩ := id FRs
  obtain ⟨GHm, mHm, _, bHm⟩ := id FHm
  obtain ⟨GAo, mAo, _, bAo⟩ := id FAo
  refine F.ok sc_read_do (fun vs H Q E h => ?_) (fun cdv A outer s H vs Q E hr h => ?_)
  · obtain ⟨_, _, rfl, _⟩ := h
    rfl
  · obtain ⟨a, zs, rfl, ha, ht, k0, k1⟩ := h
    have hrRp : Room 5 _ := hr
    have hrRs : Room 5 _ := hr
    have hrSp : Room 1 _ := hr.mono (by decide)
    have hrHm : Room 1 _ := hr.mono (by decide)
    have hrAo : Room 1 _ := hr.mono (by decide)
    refine ⟨_, (pss_cons (ps_set (i := 1) sc_read_do.nd rfl (Or.inl rfl) (pe_call GSp hrSp rfl mSp FSp.kp bSp .nil pass0 (pa_cons (pv 0) (pa_cons pe_str pa_nil))))
      (pss_cons (ps_setLc (i := 2) (own := [("group", 4)]) (g := gName 4)  (by rfl) sc_read_do.nd rfl rfl (sw_true rfl rfl rfl (by decide +kernel)) (pi_list (pe_call GSp hrSp rfl mSp FSp.kp bSp .nil pass0 (pa_cons (pe_ix ix_list (pv 1) pe_int (fun _ _ => rfl)) (pa_cons pe_str pa_nil)))) (blkOk_by (own := [("group", 4)]) (N := ["tokens", "groups", "parts", "tests", "group", "part"]) (sc := defScope s_read_do) (by decide +kernel)) (fun _ _ _ _ _ => (pg_name (i := 4) sc_read_do.nd rfl (Or.inl rfl))) (fun _ _ _ _ _ => pts_nil) (fun _ _ _ _ _ => (pe_call GRp hrRp rfl mRp FRp.kp bRp .nil pass0 (pa_cons (pv 4) pa_nil))))
      (C8.pss_cut (ps_if (PW.pt (pw_or (pt_cmpR op_gt (pe_callB call_len (by rfl) g.len PySem.boot_len (pa_cons (pv 1) pa_nil)) pe_int (nomark _)) (pw_or (pt_cmpR op_gt (pe_callB call_len (by rfl) g.len PySem.boot_len (pa_cons (pv 2) pa_nil)) pe_int (nomark _)) (pw_or1 (pt_not (pt_val (pe_callB (cr_all rfl) (by rfl) g.all (by decide +kernel) (pa_cons (pe_lc (own := [("part", 5)]) (g := gName 5)  (by rfl) sc_read_do.nd (pi_list (pv 2)) (blkOk_by (own := [("part", 5)]) (N := ["tokens", "groups", "parts", "tests", "group", "part"]) (sc := defScope s_read_do) (by decide +kernel)) (fun _ _ _ _ _ => (pg_name (i := 5) sc_read_do.nd rfl (Or.inl rfl))) (fun _ _ _ _ _ => pts_nil) (fun _ _ _ _ _ => (pe_cmpR op_notN (pv 5) pe_non (nomark _)))) pa_nil)))))))) (pss_one (ps_ret pe_non)) pss_nil)
      (C8.pss_cut (ps_set (i := 3) sc_read_do.nd rfl (Or.inl rfl) (pe_ifExp (pt_cmpR op_eq (pe_callB call_len (by rfl) g.len PySem.boot_len (pa_cons (pv 1) pa_nil)) pe_int (nomark _)) (pe_call GRs hrRs rfl mRs FRs.kp bRs .nil pass0 (pa_cons (pe_ix ix_list (pv 1) pe_int (fun _ _ => rfl)) pa_nil)) (pe_tup pa_nil)))
      (C8.pss_cut (ps_if (PW.pt (pw_or (pt_cmpR op_isN (pv 3) pe_non (nomark _)) (pw_or (pt_cmpR op_gt (pe_call GHm hrHm rfl mHm FHm.kp bHm .nil pass0 (pa_cons (pv 2) (pa_cons (pe_tup (pa_cons pe_str (pa_cons pe_str pa_nil))) pa_nil))) pe_int (nomark _)) (pw_or1 (pt_cmpR op_gt (pe_call GHm hrHm rfl mHm FHm.kp bHm .nil pass0 (pa_cons (pv 2) (pa_cons (pe_glob (v := .ref rC) rfl mCR rfl) pa_nil))) pe_int (nomark _)))))) (pss_one (ps_ret pe_non)) pss_nil)
      (C8.pss_cut (ps_if (PW.pt (pw_and (pt_cmpR op_eq (pe_call GHm hrHm rfl mHm FHm.kp bHm .nil pass0 (pa_cons (pv 2) (pa_cons (pe_glob (v := .ref rC) rfl mCR rfl) pa_nil))) pe_int (nomark _)) (pw_and1 (pt_val (pe_call GAo hrAo rfl mAo FAo.kp bAo .nil pass0 (pa_cons (pv 3) pa_nil)))))) (pss_one (ps_ret pe_non)) pss_nil)
      (pss_one (ps_ret (pe_tup (pa_cons pe_str (pa_cons (pe_callTy call_tuple_of (by rfl) g.tuple (by decide +kernel) (pa_cons (pv 2) pa_nil)) (pa_cons (pv 3) pa_nil)))))))))))), ?_⟩
    refine ⟨_, rfl, a, "if", zs, rfl, ha, ht.few, fun q1 H1 as hq1 s1 h1 hg => ?_⟩
    have hgl : as.length = (splitAt "if" zs).length := paired_lenD hg
    have hgl2 : as.length ≤ 161 := by rw [hgl]; have := splitAt_len "if" zs; have := ht.few; omega
    obtain ⟨x0, as', g0, gs', rfl, eg, ⟨p0, rfl, hp0⟩, hg'⟩ : ∃ x0 as' g0 gs', as = x0 :: as' ∧ splitAt "if" zs = g0 :: gs' ∧ (∃ a, x0 = .ref a ∧ H1 a = some (.lst (g0.map V.str))) ∧ GrAt H1 as' gs' := by
      have ne := splitAt_ne "if" zs
      cases eg : splitAt "if" zs with
      | nil => exact absurd eg ne
      | cons g0 gs' =>
        rw [eg] at hg
        cases hg with
        | cons h t => exact ⟨_, _, _, _, rfl, rfl, h, t⟩
    have ht0 : TokS g0 := by
      have m : g0 ∈ splitAt "if" zs := by rw [eg]; exact List.mem_cons_self
      exact ht.sub (fun z hz => splitAt_mem m hz) (splitAt_glen m)
    refine ⟨_, rfl, q1, _, 0, _, rfl, rfl, SqL.of h1, atI_nat (j := 0) rfl, p0, "then", g0, rfl, hp0, ht0.few, fun q2 H2 bs hq2 s2 h2 hb => ?_⟩
    have hbl : bs.length = (splitAt "then" g0).length := paired_lenD hb
    have hbl2 : bs.length ≤ 161 := by rw [hbl]; have := splitAt_len "then" g0; have := ht0.few; omega
    have s12 := s1.trans s2
    refine ⟨q2, rfl, ⟨_, SqL.of h2⟩, fun D hD => lc_rel (R := OptR PartAt) (OptR.keep fun _ _ _ _ k h => h.keep k) (bs := (splitAt "then" g0).map readPart) (by rw [List.length_map, hbl]) h2 hD (by omega) (fun _ => rfl) (fun i x b hx hb' H' s' Qe qk => ?_) fun H3 ws s3 hD3 hp => ?_⟩
    · obtain ⟨gr, hgr, p, rfl, hp⟩ := paired_get hb hx
      rw [List.getElem?_map, hgr] at hb'
      obtain rfl := Option.some.inj hb'
      have hgm := List.mem_of_getElem? hgr
      refine ⟨_, rfl, p, gr, rfl, s' _ _ hp, ht0.sub (fun z hz => splitAt_mem hgm hz) (splitAt_glen hgm), fun hn H3 s3 => ?_, fun t htt v H3 s3 hv => ?_⟩
      · refine qk _ _ s3 ?_
        rw [hn]; rfl
      · refine qk _ _ s3 ?_
        rw [htt]; exact hv
    have s13 := s12.trans s3
    have hwl : ws.length = (splitAt "then" g0).length := by rw [paired_lenD hp, List.length_map]
    generalize eO : (splitAt "then" g0).map readPart = os at hp
    have hol : os.length = ws.length := (paired_lenD hp).symm
    have er : readDo zs = readDoG (g0 :: gs') os := by
      unfold readDo
      rw [eg]
      exact congrArg (readDoG (g0 :: gs')) eO
    unfold readDoG at er
    have h13 := s3 _ _ (s2 _ _ h1)
    refine ⟨fun σ' H' => σ' = [some (.ref a), some (.ref q1), some (.ref D), none, none, none] ∧ Same H3 H' ∧ (g0 :: gs').length ≤ 2 ∧ os.length ≤ 4 ∧ os.all Option.isSome = true, ?_, ?_⟩
    · refine ⟨_, rfl, _, _, rfl, .inl ⟨_, SqL.of h13, rfl⟩, _, _, rfl, rfl, ?_⟩
      have hgl3 : (V.ref p0 :: as').length = (g0 :: gs').length := by rw [hgl, eg]
      by_cases c1 : 2 < (g0 :: gs').length
      · refine ⟨true, congrArg V.bl (decide_eq_true (by rw [hgl3]; omega)), iteT (iteT ?_)⟩
        exact k0 (by rw [er, if_neg (fun q => by have := q.1; omega)]) _ s13
      refine ⟨false, congrArg V.bl (decide_eq_false (by rw [hgl3]; omega)), iteF ?_⟩
      refine ⟨_, rfl, _, _, rfl, .inl ⟨_, SqL.of hD3, rfl⟩, _, _, rfl, rfl, ?_⟩
      by_cases c2 : 4 < ws.length
      · refine ⟨true, congrArg V.bl (decide_eq_true (by omega)), iteT (iteT ?_)⟩
        exact k0 (by rw [er, if_neg (fun q => by have := q.2.1; omega)]) _ s13
      refine ⟨false, congrArg V.bl (decide_eq_false (by omega)), iteF ?_⟩
      refine ⟨_, rfl, D, rfl, ⟨_, SqL.of hD3⟩, fun D2 hD2' => lc_vals (ys := os.map fun o => V.bl o.isSome) (by rw [List.length_map, hol]) hD3 hD2' (by omega) (fun _ => rfl) (fun i x y hx hy H' s' Qe qk => ?_) fun H4 s4 hD4 => ?_⟩
      · obtain ⟨o, ho, hr⟩ := paired_get hp hx
        rw [List.getElem?_map, ho] at hy
        obtain rfl := Option.some.inj hy
        refine ⟨_, rfl, rfl, ?_⟩
        have q := qk _ (Same.refl H')
        cases o with
        | none =>
          obtain rfl : x = .non := hr
          exact q
        | some t =>
          have hx : x ≠ .non := (show PartAt H3 x t from hr).ne
          have e : (!decide (x = V.non)) = true := by rw [decide_eq_false hx]; rfl
          rw [e]
          exact q
      refine ⟨D2, os.map Option.isSome, rfl, SqL.of (by rw [hD4, List.map_map]; rfl), ?_⟩
      have ea : (os.map Option.isSome).all id = os.all Option.isSome := by rw [List.all_map]; rfl
      rw [ea]
      cases c3 : os.all Option.isSome with
      | false =>
        refine ⟨_, rfl, iteT ?_⟩
        exact k0 (by rw [er, if_neg (fun q => by rw [c3] at q; cases q.2.2)]) _ (s13.trans s4)
      | true => exact ⟨_, rfl, iteF ⟨rfl, s4, by omega, by omega, rfl⟩⟩
    rintro σ4 H4 ⟨rfl, s4, b1, b2, b3⟩
    rw [if_pos ⟨b1, b2, b3⟩] at er
    have hps := opt_all hp b3
    have hpl : ws.length = (os.filterMap id).length := paired_lenD hps
    generalize os.filterMap id = ps at hps er hpl
    have s14 := s13.trans s4
    have h14 := s4 _ _ h13
    have hD4 := s4 _ _ hD3
    have hps : Paired (PartAt H4) ws ps := L2.Paired.mapP hps fun _ _ r => r.keep (.of s4)
    generalize eT : (if (g0 :: gs').length = 2 then readTests ((g0 :: gs').getD 1 []) else some []) = T at er
    have hT : ∀ ts, T = some ts → ts.length ≤ 4 := by
      intro ts e
      rw [← eT] at e
      split at e
      · exact readTests_len e
      · cases e; exact Nat.zero_le _
    refine ⟨fun σ' H' => ∃ v, σ' = [some (.ref a), some (.ref q1), some (.ref D), some v, none, none] ∧ Same H4 H' ∧ OptR TestsAt H' v T, ?_, ?_⟩
    · refine ⟨_, rfl, _, _, rfl, .inl ⟨_, SqL.of h14, rfl⟩, rfl, _, rfl, ?_⟩
      have pos : ∀ n : Nat, decide (V.int (n : Int) = V.int 2) = decide (n = 2) := fun n => by congr 1; exact propext ⟨fun e => by have := V.int.inj e; omega, fun e => by rw [e]; rfl⟩
      rw [pos, show (V.ref p0 :: as').length = (g0 :: gs').length by rw [hgl, eg]]
      by_cases c1 : (g0 :: gs').length = 2
      · rw [decide_eq_true c1]
        rw [if_pos c1] at eT
        cases gs' with
        | nil => exact absurd c1 (by show ¬ 1 = 2; decide)
        | cons g1 gs'' =>
        cases hg' with
        | cons hgx _ =>
          obtain ⟨p1, rfl, hp1⟩ := hgx
          have m : g1 ∈ splitAt "if" zs := by rw [eg]; exact List.mem_cons_of_mem _ List.mem_cons_self
          have ht1 : TokS g1 := ht.sub (fun z hz => splitAt_mem m hz) (splitAt_glen m)
          refine iteT ⟨_, rfl, q1, _, 1, _, rfl, rfl, SqL.of h14, atI_nat (j := 1) rfl, p1, g1, rfl, s4 _ _ (s3 _ _ (s2 _ _ hp1)), ht1, fun hn H5 s5 => ?_, fun ts hts v H5 s5 hv => ?_⟩
          · have e : T = none := eT.symm.trans hn
            subst e
            exact ⟨_, rfl, s5, rfl⟩
          · have e : T = some ts := eT.symm.trans hts
            subst e
            exact ⟨v, rfl, s5, hv⟩
      · rw [decide_eq_false c1]
        rw [if_neg c1] at eT
        subst eT
        refine iteF ⟨Nat.zero_le _, fun l hl => ⟨_, rfl, Same.new hl, l, [], rfl, upd_same, .nil⟩⟩
    rintro σ5 H5 ⟨v, rfl, s5, hv⟩
    have s15 := s14.trans s5
    have hD5 := s5 _ _ hD4
    have hps5 : Paired (PartAt H5) ws ps := L2.Paired.mapP hps fun _ _ r => r.keep (.of s5)
    cases T with
    | none =>
      obtain rfl : v = .non := hv
      refine ⟨fun _ _ => False, ?_, fun _ _ z => z.elim⟩
      exact ⟨_, rfl, rfl, true, congrArg V.bl (decide_eq_true rfl), iteT (iteT (k0 er _ s15))⟩
    | some ts =>
    have er : readDo zs = endDo ps ts := er
    have htl := hT ts rfl
    have hv : TestsAt H5 v ts := hv
    have hvn : v ≠ .non := by obtain ⟨p, ws, rfl, _⟩ := hv; exact fun e => by cases e
    have hd5 : HdAt H5 ws (ps.map PartD.word) := hd_of (fun _ _ _ h => h.hd) hps5
    have gt1 : ∀ n : Nat, decide ((1 : Int) < (n : Int)) = decide (1 < n) := fun n => by congr 1; exact propext ⟨fun e => by omega, fun e => by omega⟩
    refine ⟨fun σ' H' => σ' = [some (.ref a), some (.ref q1), some (.ref D), some v, none, none] ∧ Same H5 H' ∧ cntIn (ps.map PartD.word) RG ≤ 1 ∧ cntIn (ps.map PartD.word) CROSS ≤ 1, ?_, ?_⟩
    · refine ⟨_, rfl, rfl, false, congrArg V.bl (decide_eq_false hvn), iteF ?_⟩
      refine ⟨_, rfl, by show 2 ≤ sizeLine; decide, fun t htt => ?_⟩
      have st := Same.new (o := .tup [.str "row", .str "give"]) htt
      have et := upd_same (H := H5) (a := t) (o := .tup [.str "row", .str "give"])
      generalize upd H5 t (.tup [.str "row", .str "give"]) = H6 at st et ⊢
      refine ⟨D, t, ws, _, RG, rfl, .inl (st _ _ hD5), hd5.keep (.of st), by omega, fun H' s' => SqT.of (s' _ _ et), fun H7 s7 => ⟨_, _, rfl, rfl, _, congrArg V.bl (gt1 _), ?_⟩⟩
      by_cases c1 : 1 < cntIn (ps.map PartD.word) RG
      · rw [decide_eq_true c1]
        exact iteT (iteT (k0 (by rw [er]; unfold endDo; rw [if_neg (fun q => by have := q.1; omega)]) _ ((s15.trans st).trans s7)))
      rw [decide_eq_false c1]
      refine iteF ?_
      have s57 := st.trans s7
      refine ⟨_, rfl, D, rC, ws, _, CROSS, rfl, .inl (s57 _ _ hD5), hd5.keep (.of s57), by omega, fun H' _ => hCR H', fun H8 s8 => ⟨_, _, rfl, rfl, _, congrArg V.bl (gt1 _), ?_⟩⟩
      by_cases c2 : 1 < cntIn (ps.map PartD.word) CROSS
      · rw [decide_eq_true c2]
        exact iteT (k0 (by rw [er]; unfold endDo; rw [if_neg (fun q => by have := q.2.1; omega)]) _ ((s15.trans s57).trans s8))
      · rw [decide_eq_false c2]
        exact iteF ⟨rfl, s57.trans s8, by omega, by omega⟩
    rintro σ6 H6 ⟨rfl, s6, b4, b5⟩
    have s16 := s15.trans s6
    have hD6 := s6 _ _ hD5
    have hps6 : Paired (PartAt H6) ws ps := L2.Paired.mapP hps5 fun _ _ r => r.keep (.of s6)
    have hv6 : TestsAt H6 v ts := hv.keep (.of s6)
    have is0 : ∀ n : Nat, decide (V.int (n : Int) = V.int 0) = decide (n = 0) := fun n => by congr 1; exact propext ⟨fun e => by have := V.int.inj e; omega, fun e => by rw [e]; rfl⟩
    refine ⟨fun σ' H' => σ' = [some (.ref a), some (.ref q1), some (.ref D), some v, none, none] ∧ Same H6 H' ∧ ¬ (cntIn (ps.map PartD.word) CROSS = 0 ∧ ts.any asks = true), ?_, ?_⟩
    · refine ⟨_, rfl, D, rC, ws, _, CROSS, rfl, .inl hD6, hd5.keep (.of s6), by omega, fun H' _ => hCR H', fun H7 s7 => ⟨rfl, _, congrArg V.bl (is0 _), ?_⟩⟩
      by_cases c1 : cntIn (ps.map PartD.word) CROSS = 0
      · rw [decide_eq_true c1]
        refine iteT ⟨_, rfl, v, ts, rfl, hv6.keep (.of s7), by omega, fun H8 s8 => ⟨_, rfl, ?_⟩⟩
        cases c2 : ts.any asks with
        | true => exact iteT (k0 (by rw [er]; unfold endDo; rw [if_neg (fun q => q.2.2 ⟨c1, c2⟩)]) _ ((s16.trans s7).trans s8))
        | false => exact iteF ⟨rfl, s7.trans s8, fun z => by cases z.2⟩
      · rw [decide_eq_false c1]
        exact iteF (iteF ⟨rfl, s7, fun z => c1 z.1⟩)
    rintro σ7 H7 ⟨rfl, s7, b6⟩
    have s17 := s16.trans s7
    refine ⟨_, rfl, D, ws, rfl, .inl ⟨SqL.of (s7 _ _ hD6), fun l hl => ?_⟩⟩
    have sl := Same.new (o := .tup ws) hl
    refine ⟨_, rfl, by show 3 ≤ sizeLine; decide, fun l2 hl2 => ?_⟩
    have sl2 := Same.new (o := .tup [.str "do", .ref l, v]) hl2
    refine k1 (.deed ps ts) (by rw [er]; unfold endDo; rw [if_pos ⟨b4, b5, b6⟩]) _ _ ((s17.trans sl).trans sl2) ⟨l2, .ref l, v, rfl, upd_same, ⟨l, ws, rfl, sl2 _ _ upd_same, L2.Paired.mapP hps6 fun _ _ r => r.keep (.of ((s7.trans sl).trans sl2))⟩, hv6.keep (.of ((s7.trans sl).trans sl2))⟩
end
end Dr

set_option Elab.async false
set_option linter.all false
set_option maxRecDepth 100000
set_option maxHeartbeats 8000000
set_option pp.maxSteps 700
/-! Doors: lines. -/
namespace Dr
open PySem L2 Cs
def readToks (ts : List Str) : Option StepD := if ts = [(("hold" : String) : Str)] then some .hold else
  if ts.headD Str.empty = (("look" : String) : Str) then (readTests (ts.drop 1)).bind fun l => if l.any asks = true then none else some (.look l) else
  if ts.headD Str.empty = (("do" : String) : Str) then readDo (ts.drop 1) else none
def readLine (z : Str) : Option StepD := readToks (Txt.split z " ")
structure LineOk (z : Str) : Prop where
  fit : z.length + 2 ≤ sizeLine
  ne : Txt.split z " " ≠ []
  tok : TokS (Txt.split z " ")
section
variable {P : Program} {w : World} {K : PySem.W.Frag} {mg : Str → Option Value} {base : Heap}
def spReadLine (K : PySem.W.Frag) : Sp := fun vs H Q _ => (∃ z : Str, vs = [.str z] ∧ LineOk z ∧ (readLine z = none → ∀ H', Same H H' → Q .non H') ∧ (∀ t, readLine z = some t → ∀ v H', Same H H' → StepAt H' v t → Q v H')) ∨
  (∃ x ty, vs = [x] ∧ TyX K H x (.type ty) ∧ kitB ty "str" = some false ∧ Q .non H)
theorem ok_read_line {f fRs fAo fRd : Addr} {fd fdRs fdAo fdRd : FuncData} (F : Fun K "read_line" "read_line" s_read_line f fd) (g : Bi mg)
    (FRs : Def P w K mg base CX0 5 "read_tests" ["tokens"] spReadTests fRs fdRs) (FAo : Def P w K mg base CX0 1 "asks_other" ["tests"] spAsksOther fAo fdAo) (FRd : Def P w K mg base CX0 6 "read_do" ["tokens"] spReadDo fRd fdRd) : FnOk P w K mg base CX0 7 f fd ["line"] (spReadLine K) := by
  obtain ⟨GRs, mRs, _, bRs⟩ := id FRs
  obtain ⟨GAo, mAo, _, bAo⟩ := id FAo
  obtain ⟨GRd, mRd, _, bRd⟩ := id FRd
  refine F.ok sc_read_line (fun vs H Q E h => ?_) (fun cdv A outer s H vs Q E hr h => ?_)
  · rcases h with ⟨_, rfl, _⟩ | ⟨_, _, rfl, _⟩ <;> rfl
  · have hrRd : Room 6 _ := hr
    have hrRs : Room 5 _ := hr.mono (by decide)
    have hrAo : Room 1 _ := hr.mono (by decide)
    have nS : ∀ x y : Str, decide (V.str x = V.str y) = decide (x = y) := fun x y => by congr 1; exact propext ⟨fun e => V.str.inj e, fun e => by rw [e]⟩
    refine ⟨_, (pss_cons (ps_if (pt_not (pt_val (pe_callB call_isi (by rfl) g.isinstance (by decide +kernel) (pa_cons (pv 0) (pa_cons (pe_bltn (v := .ty "str") (by rfl) g.str (by decide +kernel) rfl) pa_nil))))) (pss_one (ps_ret pe_non)) pss_nil)
      (pss_cons (ps_set (i := 1) sc_read_line.nd rfl (Or.inl rfl) (pe_split (pv 0) pe_str))
      (pss_cons (ps_if (pt_cmpR (op_eqD hr.units) (pv 1) (pe_lst (pa_cons pe_str pa_nil)) (nomark _)) (pss_one (ps_ret (pe_tup (pa_cons pe_str pa_nil)))) pss_nil)
      (pss_cons (ps_if (pt_cmpR op_eq (pe_ix ix_list (pv 1) pe_int (fun _ _ => rfl)) pe_str (nomark _)) (pss_cons (ps_set (i := 2) sc_read_line.nd rfl (Or.inl rfl) (pe_call GRs hrRs rfl mRs FRs.kp bRs .nil pass0 (pa_cons (pe_slice sl_list (pv 1) (po_some pe_int) po_none) pa_nil)))
      (pss_one (ps_ret (pe_ifExp (PW.pt (pw_or (pt_cmpR op_isN (pv 2) pe_non (nomark _)) (pw_or1 (pt_val (pe_call GAo hrAo rfl mAo FAo.kp bAo .nil pass0 (pa_cons (pv 2) pa_nil)))))) pe_non (pe_tup (pa_cons pe_str (pa_cons (pv 2) pa_nil))))))) pss_nil)
      (pss_cons (ps_if (pt_cmpR op_eq (pe_ix ix_list (pv 1) pe_int (fun _ _ => rfl)) pe_str (nomark _)) (pss_one (ps_ret (pe_call GRd hrRd rfl mRd FRd.kp bRd .nil pass0 (pa_cons (pe_slice sl_list (pv 1) (po_some pe_int) po_none) pa_nil)))) pss_nil)
      (pss_one (ps_ret pe_non))))))), ?_⟩
    rcases h with ⟨z, rfl, ⟨hf, hne, htk⟩, k0, k1⟩ | ⟨x, ty, rfl, ht, hc, q⟩
    case inr => exact ⟨_, rfl, _, _, _, _, false, rfl, .ty "str", ht, kit_ty hc, _, rfl, iteT q⟩
    refine ⟨_, rfl, _, _, _, _, true, rfl, .ty "str", .base (.str z), kit_ty (by decide +kernel), _, rfl, iteF ?_⟩
    refine ⟨_, rfl, ⟨z, rfl⟩, z, " ", rfl, rfl, rfl, hf, fun q1 hq1 => ?_⟩
    have er : readLine z = readToks (Txt.split z " ") := rfl
    generalize Txt.split z " " = ts at er hne htk hq1 ⊢
    have s1 := Same.new (o := .lst (ts.map V.str)) hq1
    have h1 := upd_same (H := H) (a := q1) (o := .lst (ts.map V.str))
    generalize upd H q1 (.lst (ts.map V.str)) = H1 at s1 h1 ⊢
    have soh : ∀ z ∈ [(("hold" : String) : Str)], PyData.strOk z = true := fun z hz => by rw [List.mem_singleton.mp hz]; decide +kernel
    refine ⟨_, rfl, by show 1 ≤ sizeLine; decide, fun p1 hp1 => ?_⟩
    have s2 := s1.trans (Same.new (o := .lst [.str "hold"]) hp1)
    have e1 := upd_same (H := H1) (a := p1) (o := .lst [.str "hold"])
    have h2 := Same.new (o := .lst [.str "hold"]) hp1 _ _ h1
    generalize upd H1 p1 (.lst [.str "hold"]) = H2 at s2 e1 h2 ⊢
    refine eqS_go (ws := ["hold"]) h2 e1 htk.ok soh ⟨_, rfl, ?_⟩
    by_cases c1 : ts = [(("hold" : String) : Str)]
    · rw [decide_eq_true c1]
      refine iteT ⟨by show 1 ≤ sizeLine; decide, fun l hl => ?_⟩
      exact k1 .hold (by rw [er]; unfold readToks; rw [if_pos c1]) _ _ (s2.trans (Same.new hl)) ⟨l, rfl, upd_same⟩
    rw [decide_eq_false c1]
    cases ts with
    | nil => exact absurd rfl hne
    | cons t0 tr =>
    have htr : TokS tr := htk.sub (fun z hz => List.mem_cons_of_mem _ hz) (by rw [List.length_cons]; omega)
    have er : readLine z = if t0 = (("look" : String) : Str) then (readTests tr).bind fun l => if l.any asks = true then none else some (.look l) else
        if t0 = (("do" : String) : Str) then readDo tr else none := by
      rw [er]; unfold readToks; rw [if_neg c1]; rfl
    refine iteF ⟨_, rfl, q1, _, 0, _, rfl, rfl, SqL.of h2, atI_nat (j := 0) rfl, rfl, _, rfl, ?_⟩
    rw [nS]
    by_cases c2 : t0 = (("look" : String) : Str)
    · rw [decide_eq_true c2]
      rw [if_pos c2] at er
      refine iteT ⟨_, rfl, _, rfl, q1, _, rfl, SqL.of h2, fun p2 hp2 => ?_⟩
      rw [show cutV ((t0 :: tr).map V.str) (some 1) none = tr.map V.str from cut_rest (t0 :: tr) 1]
      have s3 := s2.trans (Same.new (o := .lst (tr.map V.str)) hp2)
      have h3 := upd_same (H := H2) (a := p2) (o := .lst (tr.map V.str))
      generalize upd H2 p2 (.lst (tr.map V.str)) = H3 at s3 h3 ⊢
      refine ⟨p2, tr, rfl, h3, htr, fun hn H4 s4 => ?_, fun l hl v H4 s4 hv => ?_⟩
      · refine ⟨_, rfl, rfl, true, congrArg V.bl (decide_eq_true rfl), iteT (iteT ?_)⟩
        exact k0 (by rw [er, hn]; rfl) _ (s3.trans s4)
      · have hvn : v ≠ .non := by obtain ⟨p, ws, rfl, _⟩ := hv; exact fun e => by cases e
        have hll := readTests_len hl
        refine ⟨_, rfl, rfl, false, congrArg V.bl (decide_eq_false hvn), iteF ?_⟩
        refine ⟨_, rfl, v, l, rfl, hv, by omega, fun H5 s5 => ⟨_, rfl, ?_⟩⟩
        have s15 := (s3.trans s4).trans s5
        cases c3 : l.any asks with
        | true => exact iteT (k0 (by rw [er, hl]; show (if l.any asks = true then none else some (StepD.look l)) = none; rw [if_pos c3]) _ s15)
        | false =>
          refine iteF ⟨_, rfl, by show 2 ≤ sizeLine; decide, fun t htt => ?_⟩
          have st := Same.new (o := .tup [.str "look", v]) htt
          exact k1 (.look l) (by rw [er, hl]; show (if l.any asks = true then none else some (StepD.look l)) = _; rw [if_neg (by rw [c3]; decide)]) _ _ (s15.trans st) ⟨t, v, rfl, upd_same, hv.keep (.of (s5.trans st))⟩
    rw [decide_eq_false c2]
    rw [if_neg c2] at er
    refine iteF ⟨_, rfl, q1, _, 0, _, rfl, rfl, SqL.of h2, atI_nat (j := 0) rfl, rfl, _, rfl, ?_⟩
    rw [nS]
    by_cases c3 : t0 = (("do" : String) : Str)
    · rw [decide_eq_true c3]
      rw [if_pos c3] at er
      refine iteT ⟨_, rfl, _, rfl, q1, _, rfl, SqL.of h2, fun p2 hp2 => ?_⟩
      rw [show cutV ((t0 :: tr).map V.str) (some 1) none = tr.map V.str from cut_rest (t0 :: tr) 1]
      have s3 := s2.trans (Same.new (o := .lst (tr.map V.str)) hp2)
      have h3 := upd_same (H := H2) (a := p2) (o := .lst (tr.map V.str))
      exact ⟨p2, tr, rfl, h3, htr, fun hn H4 s4 => k0 (by rw [er, hn]) _ (s3.trans s4), fun t ht v H4 s4 hv => k1 t (by rw [er, ht]) _ _ (s3.trans s4) hv⟩
    · rw [decide_eq_false c3]
      rw [if_neg c3] at er
      exact iteF (k0 er _ s2)
end
end Dr

set_option Elab.async false
set_option linter.all false
set_option maxRecDepth 100000
set_option maxHeartbeats 8000000
set_option pp.maxSteps 700
/-! Doors: tests and parts of a step, does it touch, does it name the row. -/
namespace Dr
open PySem L2 Cs
def touchB (t : StepD) : Bool := decide (0 < cntIn (t.parts.map PartD.word) CROSS)
def rowB (t : StepD) : Bool := decide (0 < cntIn (t.parts.map PartD.word) RG + cntIn (t.tests.map TestD.word) ["row"])
def Lens (t : StepD) : Prop := t.parts.length ≤ 1000 ∧ t.tests.length ≤ 1000
theorem readDo_lens {zs : List Str} {t : StepD} (h : readDo zs = some t) : Lens t := by
  unfold readDo readDoG at h
  split at h
  · next c =>
    cases e : (if (splitAt "if" zs).length = 2 then readTests ((splitAt "if" zs).getD 1 []) else some []) with
    | none => rw [e] at h; cases h
    | some ts =>
      rw [e] at h
      have h : endDo _ ts = some t := h
      unfold endDo at h
      split at h
      · cases h
        refine ⟨Nat.le_trans (List.length_filterMap_le _ _) (by have := c.2.1; omega), ?_⟩
        show ts.length ≤ 1000
        split at e
        · have := readTests_len e; omega
        · cases e; exact Nat.zero_le _
      · cases h
  · cases h
theorem readLine_lens {z : Str} {t : StepD} (h : readLine z = some t) : Lens t := by
  unfold readLine readToks at h
  split at h
  · cases h; exact ⟨Nat.zero_le _, Nat.zero_le _⟩
  · split at h
    · cases e : readTests ((Txt.split z " ").drop 1) with
      | none => rw [e] at h; cases h
      | some l =>
        rw [e] at h
        have h : (if l.any asks = true then none else some (StepD.look l)) = some t := h
        split at h
        · cases h
        · cases h; exact ⟨Nat.zero_le _, by show l.length ≤ 1000; have := readTests_len e; omega⟩
    · split at h
      · exact readDo_lens h
      · cases h
section
variable {P : Program} {w : World} {K : PySem.W.Frag} {mg : Str → Option Value} {base : Heap}
def spTestsOf : Sp := fun vs H Q _ => ∃ (v : V) (t : StepD), vs = [v] ∧ StepAt H v t ∧ ∀ u H', Same H H' → TestsAt H' u t.tests → Q u H'
def spPartsOf : Sp := fun vs H Q _ => ∃ (v : V) (t : StepD), vs = [v] ∧ StepAt H v t ∧ ∀ u H', Same H H' → PartsAt H' u t.parts → Q u H'
def spTouches : Sp := fun vs H Q _ => ∃ (v : V) (t : StepD), vs = [v] ∧ StepAt H v t ∧ Lens t ∧ ∀ H', Same H H' → Q (.bl (touchB t)) H'
def spNamesRow : Sp := fun vs H Q _ => ∃ (v : V) (t : StepD), vs = [v] ∧ StepAt H v t ∧ Lens t ∧ ∀ H', Same H H' → Q (.bl (rowB t)) H'
theorem ok_tests_of {f : Addr} {fd : FuncData} (F : Fun K "tests_of" "tests_of" s_tests_of f fd) (g : Bi mg) : FnOk P w K mg base CX0 1 f fd ["step"] spTestsOf := by
  refine F.ok sc_tests_of (fun vs H Q E h => ?_) (fun cdv A outer s H vs Q E hr h => ?_)
  · obtain ⟨_, _, rfl, _⟩ := h
    rfl
  · obtain ⟨v, t, rfl, ht, k⟩ := h
    refine ⟨_, (pss_one (ps_ret (pe_ifExp (pt_cmpR op_eq (pe_ix ix_tup (pv 0) pe_int (fun _ _ => rfl)) pe_str (nomark _)) (pe_tup pa_nil) (pe_ix ix_tup (pv 0) (pe_un un_neg pe_int) (fun _ _ => rfl))))), ?_⟩
    cases t with
    | hold =>
      obtain ⟨p, rfl, hp⟩ := ht
      refine ⟨_, rfl, p, _, 0, _, rfl, rfl, SqT.of hp, rfl, rfl, true, congrArg V.bl (decide_eq_true rfl), iteT ?_⟩
      exact ⟨Nat.zero_le _, fun l hl => k _ _ (Same.new hl) ⟨l, [], rfl, upd_same, .nil⟩⟩
    | look ts =>
      obtain ⟨p, y, rfl, hp, hy⟩ := ht
      refine ⟨_, rfl, p, _, 0, _, rfl, rfl, SqT.of hp, rfl, rfl, false, congrArg V.bl (decide_eq_false (by decide +kernel)), iteF ?_⟩
      exact ⟨_, rfl, _, rfl, p, _, -1, _, rfl, rfl, SqT.of hp, rfl, k _ _ (Same.refl _) hy⟩
    | deed ps ts =>
      obtain ⟨p, x, y, rfl, hp, hx, hy⟩ := ht
      refine ⟨_, rfl, p, _, 0, _, rfl, rfl, SqT.of hp, rfl, rfl, false, congrArg V.bl (decide_eq_false (by decide +kernel)), iteF ?_⟩
      exact ⟨_, rfl, _, rfl, p, _, -1, _, rfl, rfl, SqT.of hp, rfl, k _ _ (Same.refl _) hy⟩
theorem ok_parts_of {f : Addr} {fd : FuncData} (F : Fun K "parts_of" "parts_of" s_parts_of f fd) (g : Bi mg) : FnOk P w K mg base CX0 1 f fd ["step"] spPartsOf := by
  refine F.ok sc_parts_of (fun vs H Q E h => ?_) (fun cdv A outer s H vs Q E hr h => ?_)
  · obtain ⟨_, _, rfl, _⟩ := h
    rfl
  · obtain ⟨v, t, rfl, ht, k⟩ := h
    refine ⟨_, (pss_one (ps_ret (pe_ifExp (pt_cmpR op_eq (pe_ix ix_tup (pv 0) pe_int (fun _ _ => rfl)) pe_str (nomark _)) (pe_ix ix_tup (pv 0) pe_int (fun _ _ => rfl)) (pe_tup pa_nil)))), ?_⟩
    cases t with
    | hold =>
      obtain ⟨p, rfl, hp⟩ := ht
      refine ⟨_, rfl, p, _, 0, _, rfl, rfl, SqT.of hp, rfl, rfl, false, congrArg V.bl (decide_eq_false (by decide +kernel)), iteF ?_⟩
      exact ⟨Nat.zero_le _, fun l hl => k _ _ (Same.new hl) ⟨l, [], rfl, upd_same, .nil⟩⟩
    | look ts =>
      obtain ⟨p, y, rfl, hp, hy⟩ := ht
      refine ⟨_, rfl, p, _, 0, _, rfl, rfl, SqT.of hp, rfl, rfl, false, congrArg V.bl (decide_eq_false (by decide +kernel)), iteF ?_⟩
      exact ⟨Nat.zero_le _, fun l hl => k _ _ (Same.new hl) ⟨l, [], rfl, upd_same, .nil⟩⟩
    | deed ps ts =>
      obtain ⟨p, x, y, rfl, hp, hx, hy⟩ := ht
      refine ⟨_, rfl, p, _, 0, _, rfl, rfl, SqT.of hp, rfl, rfl, true, congrArg V.bl (decide_eq_true rfl), iteT ?_⟩
      exact ⟨_, rfl, p, _, 1, _, rfl, rfl, SqT.of hp, rfl, k _ _ (Same.refl _) hx⟩
theorem ok_step_touches {f fHm fPo rC : Addr} {fd fdHm fdPo : FuncData} (F : Fun K "step_touches" "step_touches" s_step_touches f fd) (g : Bi mg) (FHm : Def P w K mg base CX0 1 "how_many" ["parts", "words"] (spHowMany K) fHm fdHm) (FPo : Def P w K mg base CX0 1 "parts_of" ["step"] spPartsOf fPo fdPo)
    (mCR : mg "CROSSING" = some (.ref rC)) (hCR : ∀ H : Hp, SqT K H rC (CROSS.map V.str)) : FnOk P w K mg base CX0 2 f fd ["step"] spTouches := by
  obtain ⟨GHm, mHm, _, bHm⟩ := id FHm
  obtain ⟨GPo, mPo, _, bPo⟩ := id FPo
  refine F.ok sc_step_touches (fun vs H Q E h => ?_) (fun cdv A outer s H vs Q E hr h => ?_)
  · obtain ⟨_, _, rfl, _⟩ := h
    rfl
  · obtain ⟨v, t, rfl, ht, hl, k⟩ := h
    have hrHm : Room 1 _ := hr
    have hrPo : Room 1 _ := hr
    refine ⟨_, (pss_one (ps_ret (pe_cmpR op_gt (pe_call GHm hrHm rfl mHm FHm.kp bHm .nil pass0 (pa_cons (pe_call GPo hrPo rfl mPo FPo.kp bPo .nil pass0 (pa_cons (pv 0) pa_nil)) (pa_cons (pe_glob (v := .ref rC) rfl mCR rfl) pa_nil))) pe_int (nomark _)))), ?_⟩
    refine ⟨_, rfl, v, t, rfl, ht, fun u H1 s1 hu => ?_⟩
    obtain ⟨p, ws, rfl, hp, hw⟩ := hu
    refine ⟨p, rC, ws, _, CROSS, rfl, .inr hp, hd_of (fun _ _ _ h => h.hd) hw, by rw [paired_lenD hw]; exact hl.1, fun H' _ => hCR H', fun H2 s2 => ⟨_, _, rfl, rfl, ?_⟩⟩
    have q := k _ (s1.trans s2)
    unfold touchB at q
    rw [show decide (0 < cntIn (t.parts.map PartD.word) CROSS) = decide ((0 : Int) < (cntIn (t.parts.map PartD.word) CROSS : Nat)) by congr 1; exact propext ⟨fun e => by omega, fun e => by omega⟩] at q
    exact q
theorem ok_step_names_row {f fHm fPo fTo : Addr} {fd fdHm fdPo fdTo : FuncData} (F : Fun K "step_names_row" "step_names_row" s_step_names_row f fd) (g : Bi mg) (FHm : Def P w K mg base CX0 1 "how_many" ["parts", "words"] (spHowMany K) fHm fdHm) (FPo : Def P w K mg base CX0 1 "parts_of" ["step"] spPartsOf fPo fdPo) (FTo : Def P w K mg base CX0 1 "tests_of" ["step"] spTestsOf fTo fdTo) : FnOk P w K mg base CX0 2 f fd ["step"] spNamesRow := by
  obtain ⟨GHm, mHm, _, bHm⟩ := id FHm
  obtain ⟨GPo, mPo, _, bPo⟩ := id FPo
  obtain ⟨GTo, mTo, _, bTo⟩ := id FTo
  refine F.ok sc_step_names_row (fun vs H Q E h => ?_) (fun cdv A outer s H vs Q E hr h => ?_)
  · obtain ⟨_, _, rfl, _⟩ := h
    rfl
  · obtain ⟨v, t, rfl, ht, hl, k⟩ := h
    have hrHm : Room 1 _ := hr
    have hrPo : Room 1 _ := hr
    have hrTo : Room 1 _ := hr
    refine ⟨_, (pss_one (ps_ret (pe_cmpR op_gt (pe_op op_add (pe_call GHm hrHm rfl mHm FHm.kp bHm .nil pass0 (pa_cons (pe_call GPo hrPo rfl mPo FPo.kp bPo .nil pass0 (pa_cons (pv 0) pa_nil)) (pa_cons (pe_tup (pa_cons pe_str (pa_cons pe_str pa_nil))) pa_nil))) (pe_call GHm hrHm rfl mHm FHm.kp bHm .nil pass0 (pa_cons (pe_call GTo hrTo rfl mTo FTo.kp bTo .nil pass0 (pa_cons (pv 0) pa_nil)) (pa_cons (pe_tup (pa_cons pe_str pa_nil)) pa_nil)))) pe_int (nomark _)))), ?_⟩
    refine ⟨_, rfl, v, t, rfl, ht, fun u H1 s1 hu => ?_⟩
    obtain ⟨p, ws, rfl, hp, hw⟩ := hu
    refine ⟨by show 2 ≤ sizeLine; decide, fun l hl1 => ?_⟩
    have s2 := s1.trans (Same.new (o := .tup [.str "row", .str "give"]) hl1)
    refine ⟨p, l, ws, _, RG, rfl, .inr (Same.new hl1 _ _ hp), hd_of (fun _ _ _ h => PartAt.hd h) (L2.Paired.mapP hw fun _ _ h => PartAt.keep (.of (Same.new hl1)) h), by rw [paired_lenD hw]; exact hl.1, fun H' s' => SqT.of (s' _ _ upd_same), fun H2 s3 => ?_⟩
    have s13 := s2.trans s3
    refine ⟨_, rfl, v, t, rfl, ht.keep (.of s13), fun u2 H3 s4 hu2 => ?_⟩
    obtain ⟨p2, ws2, rfl, hp2, hw2⟩ := hu2
    refine ⟨by show 1 ≤ sizeLine; decide, fun l2 hl2 => ?_⟩
    have s5 := (s13.trans s4).trans (Same.new (o := .tup [.str "row"]) hl2)
    refine ⟨p2, l2, ws2, _, ["row"], rfl, .inr (Same.new hl2 _ _ hp2), hd_of (fun _ _ _ h => TestAt.hd h) (L2.Paired.mapP hw2 fun _ _ h => TestAt.keep (.of (Same.new hl2)) h), by rw [paired_lenD hw2]; exact hl.2, fun H' s' => SqT.of (s' _ _ upd_same), fun H4 s6 => ⟨_, _, rfl, rfl, _, _, rfl, rfl, ?_⟩⟩
    have q := k _ (s5.trans s6)
    unfold rowB at q
    rw [show decide (0 < cntIn (t.parts.map PartD.word) RG + cntIn (t.tests.map TestD.word) ["row"]) = decide ((0 : Int) < (cntIn (t.parts.map PartD.word) RG : Nat) + (cntIn (t.tests.map TestD.word) ["row"] : Nat)) by congr 1; exact propext ⟨fun e => by omega, fun e => by omega⟩] at q
    exact q
end
end Dr

set_option Elab.async false
set_option linter.all false
set_option maxRecDepth 100000
set_option maxHeartbeats 8000000
set_option pp.maxSteps 700
/-! Doors: the kinds in a step. -/
namespace Dr
open PySem L2 Cs
def kindsT : TestD → List Str
  | .row ks => ks
  | .sum _ ks _ _ => ks
def toldL : PartD → List (List Str)
  | .join => []
  | .new k => [[k]]
  | .kinds _ ks af => [ks, [af]]
  | .kind _ k af => [[k], [af]]
def rawKinds (t : StepD) : List Str := t.tests.flatMap kindsT ++ t.parts.flatMap fun p => (toldL p).flatten
def stepKinds (t : StepD) : List Str := (rawKinds t).filter fun z => !decide (z = (("gone" : String) : Str))
def ItAt (H : Hp) (v : V) (zs : List Str) : Prop := (∃ z, v = .str z ∧ zs = [z]) ∨ ∃ q, v = .ref q ∧ H q = some (.tup (zs.map V.str))
theorem ItAt.keep {H H' : Hp} {v : V} {zs : List Str} (k : TupK H H') (h : ItAt H v zs) : ItAt H' v zs := by
  rcases h with h | ⟨q, e, h⟩
  · exact .inl h
  · exact .inr ⟨q, e, k _ _ h⟩
theorem PartAt.told {H : Hp} {v : V} {t : PartD} (h : PartAt H v t) : ∃ r is, v = .ref r ∧ H r = some (.tup (.str t.word :: is)) ∧ Paired (ItAt H) is (toldL t) := by
  cases t with
  | join => obtain ⟨p, rfl, h1⟩ := h; exact ⟨p, _, rfl, h1, .nil⟩
  | new k => obtain ⟨p, rfl, h1⟩ := h; exact ⟨p, _, rfl, h1, .cons (.inl ⟨_, rfl, rfl⟩) .nil⟩
  | kinds w ks af => obtain ⟨p, q, rfl, h1, h2⟩ := h; exact ⟨p, _, rfl, h1, .cons (.inr ⟨_, rfl, h2⟩) (.cons (.inl ⟨_, rfl, rfl⟩) .nil)⟩
  | kind w k af => obtain ⟨p, rfl, h1⟩ := h; exact ⟨p, _, rfl, h1, .cons (.inl ⟨_, rfl, rfl⟩) (.cons (.inl ⟨_, rfl, rfl⟩) .nil)⟩
theorem TestAt.kinds {H : Hp} {v : V} {t : TestD} (h : TestAt H v t) : ∃ r, v = .ref r ∧ ∃ q, H q = some (.tup ((kindsT t).map V.str)) ∧ ((∃ ks, t = .row ks ∧ H r = some (.tup [.str "row", .ref q])) ∨ ∃ o ks sg n, t = .sum o ks sg n ∧ H r = some (.tup [.str "sum", .bl o, .ref q, .str sg, .int n])) := by
  cases t with
  | row ks => obtain ⟨p, q, rfl, h1, h2⟩ := h; exact ⟨p, rfl, q, h2, .inl ⟨ks, rfl, h1⟩⟩
  | sum o ks sg n => obtain ⟨p, q, rfl, h1, h2⟩ := h; exact ⟨p, rfl, q, h2, .inr ⟨o, ks, sg, n, rfl, h1⟩⟩
theorem flat_take {α β : Type} (f : α → List β) (xs : List α) (i : Nat) (x : α) (h : xs[i]? = some x) : (xs.take (i + 1)).flatMap f = (xs.take i).flatMap f ++ f x := by
  rw [List.take_succ, h, List.flatMap_append]
  simp
theorem cut_tail (x : V) (l : List V) : cutV (x :: l) (some 1) none = l := by
  unfold cutV
  rw [show (some (1 : Int)) = some ((1 : Nat) : Int) from rfl, HT.sIx_nat, HT.sIx_none, List.length_cons, Nat.min_eq_left (by omega)]
  show List.take (l.length + 1 - 1) l = l
  rw [Nat.add_sub_cancel, List.take_of_length_le (Nat.le_refl _)]
theorem flatten_take {β : Type} (xs : List (List β)) (i : Nat) (x : List β) (h : xs[i]? = some x) : (xs.take (i + 1)).flatten = (xs.take i).flatten ++ x := by
  rw [List.take_succ, h, List.flatten_append]
  simp
theorem flatten_le {β : Type} (xs : List (List β)) (i : Nat) : ((xs.take i).flatten).length ≤ xs.flatten.length := by
  conv => rhs; rw [← List.take_append_drop i xs, List.flatten_append, List.length_append]
  omega
theorem flat_le {α β : Type} (f : α → List β) (xs : List α) (i : Nat) : ((xs.take i).flatMap f).length ≤ (xs.flatMap f).length := by
  conv => rhs; rw [← List.take_append_drop i xs, List.flatMap_append, List.length_append]
  omega
section
variable {P : Program} {w : World} {K : PySem.W.Frag} {mg : Str → Option Value} {base : Heap}
def spStepKinds : Sp := fun vs H Q _ => ∃ (v : V) (t : StepD), vs = [v] ∧ StepAt H v t ∧ (rawKinds t).length ≤ 10000 ∧ ∀ q H', H q = none → Same H H' → H' q = some (.lst ((stepKinds t).map V.str)) → Q (.ref q) H'
end
end Dr

set_option Elab.async false
set_option linter.all false
set_option maxRecDepth 100000
set_option maxHeartbeats 4000000
/-! for i, x in enumerate(t), t a tuple. -/
namespace Cs
open PySem PySem.Spec PyProof.Rows L2
theorem meets_enumT (l : Addr) (items : Array Value) :
    Meets (Builtin.«enumerate.__new__» ⟨[.type "enumerate", .ref l], []⟩) (fun _ R s => s.heap.IsTuple l items ∧
      R (.ok (.ret (.ref (s.heap.push { cls := .type "tuple_iterator", data := .fields #[.ref l, .int 0 0] }).objs.size)))
        { s with heap := (s.heap.push { cls := .type "tuple_iterator", data := .fields #[.ref l, .int 0 0] }).push { cls := .type "enumerate", data := .fields #[.none, .bool false, .ref s.heap.objs.size, rawInt 0, .none, .none] } }) :=
  .of_wp fun prog w A R s h => by
    obtain ⟨hp, g, d, tk, os⟩ := s; obtain ⟨hl, h⟩ := h
    have hsub := sub_enumerate
    have q1 : ∀ {A' : Around} {E : Value → Shared → Prop} {Q : Value → Shared → Prop}, Q (.ref hp.objs.size) ⟨hp.push { cls := .type "tuple_iterator", data := .fields #[.ref l, .int 0 0] }, g, d, tk, os⟩ → wpAny (model prog w) A' (pyIter (.ref l)) Q E ⟨hp, g, d, tk, os⟩ :=
      fun q => (begins_tuple l items).iter prog w _ _ ⟨hp, g, d, tk, os⟩ _ hl q
    wp_walk using q1
    refine wpAny_stack_any fun st => wpAny_pure ?_
    split
    · rename_i c _ _ _ _ _
      cases (c == Value.type "enumerate")
      · wp_walk using q1
        exact ⟨_, rfl, h⟩
      · wp_walk using q1
        exact ⟨_, rfl, h⟩
    · wp_walk using q1
      exact ⟨_, rfl, h⟩
section
variable {prog : Program} {w : World} {A : Around} {E : Value → Shared → Prop} {s : Shared}
theorem call_enumT {l : Addr} {items : Array Value} {Q : Value → Shared → Prop} (hL : s.heap.IsTuple l items)
    (h : ∀ h', IsEnum h' (s.heap.objs.size + 1) s.heap.objs.size 0 .none → h'.IsTupleIter s.heap.objs.size l 0 → h'.objs.size = s.heap.objs.size + 2 →
      (∀ b o, s.heap.get? b = some o → h'.get? b = some o) → Q (.ref (s.heap.objs.size + 1)) { s with heap := h' }) :
    wpAny (model prog w) A (call (.type "enumerate") [.ref l]) Q E s := by
  refine callType_new F.called_enumerate (by decide) (F.typeCall_enumerate_1 _) (F.newCall_enumerate_1 _) (fun obj => F.args_object_init_2 obj _) F.entry_enumerate_new
    (meets_enumT l items) ⟨hL, ?_⟩
  have hz : (s.heap.push { cls := .type "tuple_iterator", data := .fields #[.ref l, .int 0 0] }).objs.size = s.heap.objs.size + 1 := Heap.size_push ..
  show _ ∧ _
  rw [hz]
  have he : IsEnum ((s.heap.push { cls := .type "tuple_iterator", data := .fields #[.ref l, .int 0 0] }).push
      { cls := .type "enumerate", data := .fields #[.none, .bool false, .ref s.heap.objs.size, rawInt 0, .none, .none] }) (s.heap.objs.size + 1) s.heap.objs.size 0 .none := by
    have := Heap.get?_push_size (s.heap.push { cls := .type "tuple_iterator", data := .fields #[.ref l, .int 0 0] })
      (o := { cls := .type "enumerate", data := .fields #[.none, .bool false, .ref s.heap.objs.size, rawInt 0, .none, .none] }) rfl
    rw [hz] at this; exact this
  refine ⟨⟨_, he, rfl⟩, h _ he ⟨_, Heap.get?_push_of_some _ (Heap.get?_push_size _ rfl), rfl, rfl⟩ (by rw [Heap.size_push, hz]) fun b o x => Heap.get?_push_of_some _ (Heap.get?_push_of_some _ x)⟩
end
/-- the tuple at a, each item in a new pair -/
def IteT (K : PySem.W.Frag) (a : Addr) : It :=
  ⟨fun i H => ∃ (xs : List V) (x : V), SqT K H a xs ∧ xs[i]? = some x, fun i H v H' => ∃ T x, v = .ref T ∧ H T = none ∧ H' = upd H T (.tup [.int (i : Nat), x]) ∧ ∀ xs, SqT K H a xs → xs[i]? = some x, fun i H => ∃ xs : List V, SqT K H a xs ∧ xs.length = i⟩
theorem turn_enumT {P : Program} {w : World} {K : PySem.W.Frag} {elts : List Expr} {kk : Nat} {tpos : Pos} (a e it : Addr) :
    Turn P w K (.Tuple elts kk tpos) (IteT K a) [e, it] e (fun i h => (∃ old, IsEnum h e it ((i : Nat) : Int) old) ∧ h.IsTupleIter it a i ∧ e ≠ it) where
  mem := by simp
  obj := fun i h st b hb => by
    obtain ⟨⟨old, he⟩, ⟨o, ho, hc, hd⟩, _⟩ := st
    have e' : b = e ∨ b = it := by simpa using hb
    rcases e' with z | z
    · rw [z]; exact ⟨_, he, fun v q => nomatch q⟩
    · rw [z]; exact ⟨o, ho, fun v q => by rw [hd] at q; cases q⟩
  keep := fun i h h' st k => let ⟨⟨old, he⟩, hi, hne⟩ := st; ⟨⟨old, k e (by simp) _ he⟩, hi.at fun o q => k it (by simp) o q, hne⟩
  item := by
    intro X hP hw hK hc i pins s σ H E I hf st hg
    subst hP hw hK
    obtain ⟨⟨old, he⟩, hit, hne⟩ := st
    obtain ⟨xs, x, hq, hx⟩ := hg
    obtain ⟨its, rv, p, hz⟩ := I.tuple hq
    have p' : s.heap.IsTuple a its.toArray := p
    obtain ⟨u, hu, ru⟩ := rv.get hx
    have hel : e < s.heap.objs.size := Heap.lt_size he
    have hil : it < s.heap.objs.size := by obtain ⟨_, q, _⟩ := hit; exact Heap.lt_size q
    have nta : a ≠ it := by
      rintro rfl
      obtain ⟨o1, h1, c1, _⟩ := hit
      obtain ⟨o2, h2, c2, _⟩ := p'
      rw [h1] at h2
      cases h2
      rw [c1] at c2
      injection c2 with q
      exact absurd q (by decide)
    have nea : e ≠ a := by
      rintro rfl
      obtain ⟨o2, h2, c2, _⟩ := p'
      rw [he] at h2
      cases h2
      injection c2 with q
      exact absurd q (by decide)
    have hlt : i < its.toArray.size := by
      have := (List.getElem?_eq_some_iff.mp hu).1
      simpa using this
    refine wpAny_pyNext_enum_itemD (Draws.tuple (A := X.A.in1) (I.ok.hd hc) it a nta its.toArray) he ⟨hit, p'⟩ hlt hne (by simp [hne, nea]) fun x' h' tk hP ho hst' hT hsz hk => ?_
    have ex : x' = u := by
      have h1 : its[i]? = some x' := by simpa using hP
      rw [hu] at h1
      exact (Option.some.inj h1).symm
    subst ex
    refine ⟨_, rfl, wpAny_letOwnedTupleGo_enum (s := { s with heap := h', toks := tk + 1 }) ho fun h'' he' sb => ?_⟩
    have hT2 : h''.get? s.heap.objs.size = some { cls := .type "tuple", data := .seq #[.int i tk, x'] } := (sb.2 _ (Nat.ne_of_gt hel)).trans hT
    have new : ObjOk X.prog X.w (upd H s.heap.objs.size (.tup [.int (i : Nat), x])) h'' s.heap.objs.size (.tup [.int (i : Nat), x]) :=
      ⟨by show 2 ≤ sizeLine; decide, [.int i tk, x'], .cons ⟨_, rfl⟩ (.cons ru .nil), ⟨_, hT2, rfl, _, rfl⟩⟩
    have I1 : Inv X pins σ (upd H s.heap.objs.size (.tup [.int (i : Nat), x])) { s with heap := h'', toks := tk + 1 } :=
      I.turnedNew (ch := [e, it]) (fun b ob hb q => (sb.2 b (fun z => hb (by simp [z]))).trans (hk b ob (fun z => hb (by simp [z])) (fun z => hb (by simp [z])) q)) hf (Nat.le_refl _) new
    refine ⟨.ref s.heap.objs.size, _, I1, rfl, ⟨_, x, rfl, I.hok.fresh (Nat.le_refl _), rfl, fun ys hy => by rw [I.tuple_inj hy hq]; exact hx⟩, ⟨⟨x', ?_⟩, hst'.1.at fun o q => (sb.2 it (Ne.symm hne)).trans q, hne⟩, fun b hb => ?_⟩
    · have e1 : ((i + 1 : Nat) : Int) = (i : Int) + 1 := by omega
      rw [e1]; exact he'
    · have hb' : b < s.heap.objs.size := by
        have e' : b = e ∨ b = it := by simpa using hb
        rcases e' with z | z
        · rw [z]; exact hel
        · rw [z]; exact hil
      rw [upd_ne (Nat.ne_of_lt hb')]
      exact (hf b hb).1
  done := by
    intro X hP hw hK hc i pins s σ H E I hf st hg
    subst hP hw hK
    obtain ⟨⟨old, he⟩, hit, hne⟩ := st
    obtain ⟨xs, hq, hx⟩ := hg
    obtain ⟨its, rv, p, hz⟩ := I.tuple hq
    have p' : s.heap.IsTuple a its.toArray := p
    obtain ⟨f0, f1, f2, f3, f4, f5⟩ := hf it (by simp)
    have hl := rv.length
    have nta : a ≠ it := by
      rintro rfl
      obtain ⟨o1, h1, c1, _⟩ := hit
      obtain ⟨o2, h2, c2, _⟩ := p'
      rw [h1] at h2
      cases h2
      rw [c1] at c2
      injection c2 with q
      exact absurd q (by decide)
    have hi : its.toArray.size = i := by simp; omega
    have hit' : s.heap.IsTupleIter it a its.toArray.size := by rw [hi]; exact hit
    exact wpAny_pyNext_enum_endD (Draws.tuple (A := X.A.in1) (I.ok.hd hc) it a nta its.toArray) he ⟨hit', p'⟩ fun h' eb => ⟨rfl, I.turned (t' := s.toks) (fun b o hb q => eb b o hb q) f0 f1 f3 f4 f5⟩
  self := fun A i s Q E st h => let ⟨⟨_, he⟩, _⟩ := st; wpAny_pyIter_enum he h
def iEnumT (K : PySem.W.Frag) (ta : TA) : TI := fun σ H R => ta σ H fun vs H1 => ∃ a xs, vs = [.ref a] ∧ SqT K H1 a xs ∧ R (IteT K a) H1
theorem pi_enumT {X : Cx} {e : Expr} {ta : TA} {p pos tpos : Pos} {elts : List Expr} {kk : Nat} (hg : Gl X "enumerate") (hm : X.mg "enumerate" = none) (ha : PA X [e] ta) (hs : starEach [e] X.env = [(false, eval e X.env)] := by rfl) :
    PI X (.Tuple elts kk tpos) (.Call (.Name "enumerate" p) [e] [] pos) (iEnumT X.K ta) := by
  refine ⟨fun pins s σ H R I h => ?_⟩
  refine Call_ (ld_blt I hg hm boot_enumerate (PyProof.Rows.callWith_type1 (thn (ha.run pos pins s σ H _ I h) fun us s1 ⟨vs, H1, I1, r1, q1⟩ => ?_) hs rfl))
  obtain ⟨a, xs, ex, hq, q⟩ := q1
  subst ex
  cases r1 with
  | cons r rr =>
    cases rr
    cases r
    obtain ⟨its, rv, p', hz⟩ := I1.tuple hq
    refine call_enumT (show s1.heap.IsTuple a its.toArray from p') fun h' he hit hsz hk => wpAny_pyIter_enum he ?_
    have I2 : Inv X pins σ H1 { s1 with heap := h' } := I1.kept (t' := s1.toks) hk
    refine ⟨s1.heap.objs.size + 1, [s1.heap.objs.size + 1, s1.heap.objs.size], _, _, H1, rfl, I2, turn_enumT a (s1.heap.objs.size + 1) s1.heap.objs.size, ⟨⟨.none, he⟩, hit, Nat.succ_ne_self _⟩, fun b hb => ?_, q⟩
    have e' : b = s1.heap.objs.size + 1 ∨ b = s1.heap.objs.size := by simpa using hb
    have hle : s1.heap.objs.size ≤ b := by
      rcases e' with z | z
      · rw [z]; exact Nat.le_add_right _ _
      · rw [z]; exact Nat.le_refl _
    exact I1.fpOk hle (I1.hok.fresh hle)
/-- the walk -/
theorem walk_enumT {K : PySem.W.Frag} {a : Addr} {xs : List V} : Walk (IteT K a) xs.length (fun H => SqT K H a xs) (YPair (fun i => some (.int (i : Nat))) (fun i => xs[i]?)) where
  stops := fun H h => ⟨xs, h, rfl⟩
  goes := fun i H hi h => ⟨xs, xs[i], h, List.getElem?_eq_getElem hi⟩
  yields := fun i H x H' hi h y => by
    obtain ⟨T, x', e1, e2, e3, e4⟩ := y
    exact ⟨T, _, x', e1, e2, e3, rfl, e4 xs h⟩
end Cs

set_option Elab.async false
set_option linter.all false
set_option maxRecDepth 100000
set_option maxHeartbeats 8000000
set_option pp.maxSteps 700
/-! Doors: Door.__init__. -/
namespace Dr
open PySem L2 Cs
/-- the class Door -/
structure DoC (K : PySem.W.Frag) (C : Addr) : Prop where
  cl : Cls K C
  nn : NoAttr K C "name"
  nl : NoAttr K C "lines"
  ns : NoAttr K C "steps"
  nt : NoAttr K C "touches"
  nr : NoAttr K C "names_row"
structure DoorOk (nm : Str) (zs : List Str) (ts : List StepD) : Prop where
  word : wordB nm = true
  nlen : nm.length ≤ 100000
  ok : ∀ z ∈ zs, LineOk z
  rd : Paired (fun z t => readLine z = some t) zs ts
  few : ts.length ≤ 6
  deeds : cntIn (ts.map StepD.word) ["do"] ≠ 0
  holds : cntIn (ts.map StepD.word) ["hold"] ≤ 1
  cross : (ts.filter touchB).length ≤ 1
def touches (ts : List StepD) : Bool := decide ((ts.filter touchB).length = 1)
def fsD (nm : Str) (L S : Addr) (ts : List StepD) : List (Str × V) := putF "names_row" (.bl (ts.any rowB)) (putF "touches" (.bl (touches ts)) (putF "steps" (.ref S) (putF "lines" (.ref L) (putF "name" (.str nm) []))))
def spDoorB (K : PySem.W.Frag) (C : Addr) : Sp := fun vs H Q _ => ∃ (x dx L : Addr) (nm : Str) (zs : List Str) (ts : List StepD), vs = [.ref x, .str nm, .ref L] ∧ H x = some (.ins C dx []) ∧ H L = some (.tup (zs.map V.str)) ∧ DoorOk nm zs ts ∧
  ∀ (S : Addr) (ss : List V) (H' : Hp), H' x = some (.ins C dx (fsD nm L S ts)) → (∀ b o, H b = some o → b ≠ x → H' b = some o) → H' S = some (.tup ss) → Paired (StepAt H') ss ts → Q .non H'
section
variable {P : Program} {w : World} {K : PySem.W.Frag} {mg : Str → Option Value} {base : Heap}
theorem door_body {C f fIw fRl fHm fSt fSn : Addr} {fdIw fdRl fdHm fdSt fdSn : FuncData} {cdv : Value} {A : Around} {outer : List Env} {s : Shared} {H : Hp} {vs : List V} {Q : VK} {E : XK} (g : Bi mg) (nA : mg "any" = none) (DC : DoC K C)
    (FIw : Def P w K mg base CX0 1 "is_word" ["thing"] (spIsWord K) fIw fdIw) (FRl : Def P w K mg base CX0 7 "read_line" ["line"] (spReadLine K) fRl fdRl) (FHm : Def P w K mg base CX0 1 "how_many" ["parts", "words"] (spHowMany K) fHm fdHm)
    (FSt : Def P w K mg base CX0 2 "step_touches" ["step"] spTouches fSt fdSt) (FSn : Def P w K mg base CX0 2 "step_names_row" ["step"] spNamesRow fSn fdSn)
    (hr : Room 7 (A.deeper (PyProof.Rows.envOfC "Door.__init__" (defScope s_Door_init) s.heap.objs.size f cdv))) (h : spDoorB K C vs H Q E) :
    ∃ t, PSs (cxOf CX0 P w K mg base ["self", "name", "lines", "steps", "at", "line", "step", "crossings"] "Door.__init__" (defScope s_Door_init) f cdv A outer s H E).nox (defBody s_Door_init) t ∧ t { nx := fun _ H' => Q .non H', rt := Q } (L2.start ["self", "name", "lines", "steps", "at", "line", "step", "crossings"] vs) H := by
  obtain ⟨GIw, mIw, _, bIw⟩ := id FIw
  obtain ⟨GRl, mRl, _, bRl⟩ := id FRl
  obtain ⟨GHm, mHm, _, bHm⟩ := id FHm
  obtain ⟨GSt, mSt, _, bSt⟩ := id FSt
  obtain ⟨GSn, mSn, _, bSn⟩ := id FSn
  have hrRl : Room 7 _ := hr
  have hrIw : Room 1 _ := hr.mono (by decide)
  have hrHm : Room 1 _ := hr.mono (by decide)
  have hrSt : Room 2 _ := hr.mono (by decide)
  have hrSn : Room 2 _ := hr.mono (by decide)
  obtain ⟨x, dx, L, nm, zs, ts, rfl, hx, hL, ok, k⟩ := h
  refine ⟨_, (pss_cons (ps_if (pt_not (pt_val (pe_call GIw hrIw rfl mIw FIw.kp bIw .nil pass0 (pa_cons (pv 1) pa_nil)))) (pss_one ps_never) pss_nil)
      (pss_cons (ps_set (i := 3) sc_Door_init.nd rfl (Or.inl rfl) (pe_lst pa_nil))
      (pss_cons (ps_for PassesOwn.never rfl (pi_enumT (by rfl) g.enumerate (pa_cons (pv 2) pa_nil)) (pg_tup rfl (pgs_cons (pg_name (i := 4) sc_Door_init.nd rfl (Or.inl rfl)) (pgs_cons (pg_name (i := 5) sc_Door_init.nd rfl (Or.inl rfl)) pgs_nil))) (pss_cons (ps_set (i := 6) sc_Door_init.nd rfl (Or.inl rfl) (pe_call GRl hrRl rfl mRl FRl.kp bRl .nil pass0 (pa_cons (pv 5) pa_nil)))
      (pss_cons (ps_if (pt_cmpR op_isN (pv 6) pe_non (nomark _)) (pss_one ps_never) pss_nil)
      (pss_one (ps_expr (pe_bm PySem.F.plainAttrs_list PySem.F.slot_list_append PySem.F.type_list_append mt_append (pv 3) (pa_cons (pv 6) pa_nil)))))))
      (C8.pss_cut (ps_set (i := 7) sc_Door_init.nd rfl (Or.inl rfl) (pe_callB call_len (by rfl) g.len PySem.boot_len (pa_cons (pe_lc (own := [("step", 6)]) (g := gName 6)  (by rfl) sc_Door_init.nd (pi_list (pv 3)) (blkOk_by (own := [("step", 6)]) (N := ["self", "name", "lines", "steps", "at", "line", "step", "crossings"]) (sc := defScope s_Door_init) (by decide +kernel)) (fun _ _ _ _ _ => (pg_name (i := 6) sc_Door_init.nd rfl (Or.inl rfl))) (fun _ _ _ _ _ => (pts_one (pt_val (pe_call GSt hrSt rfl mSt FSt.kp bSt .nil pass0 (pa_cons (pv 6) pa_nil))))) (fun _ _ _ _ _ => (pv 6))) pa_nil)))
      (pss_cons (ps_if (PW.pt (pw_or (pt_cmpR op_gt (pe_callB call_len (by rfl) g.len PySem.boot_len (pa_cons (pv 3) pa_nil)) pe_int (nomark _)) (pw_or (pt_cmpR op_eq (pe_call GHm hrHm rfl mHm FHm.kp bHm .nil pass0 (pa_cons (pv 3) (pa_cons (pe_tup (pa_cons pe_str pa_nil)) pa_nil))) pe_int (nomark _)) (pw_or (pt_cmpR op_gt (pe_call GHm hrHm rfl mHm FHm.kp bHm .nil pass0 (pa_cons (pv 3) (pa_cons (pe_tup (pa_cons pe_str pa_nil)) pa_nil))) pe_int (nomark _)) (pw_or1 (pt_cmpR op_gt (pv 7) pe_int (nomark _))))))) (pss_one ps_never) pss_nil)
      (pss_cons (ps_fld (pv 0) (pv 1) rfl)
      (pss_cons (ps_fld (pv 0) (pe_callTy call_tuple_of (by rfl) g.tuple (by decide +kernel) (pa_cons (pv 2) pa_nil)) rfl)
      (pss_cons (ps_fld (pv 0) (pe_callTy call_tuple_of (by rfl) g.tuple (by decide +kernel) (pa_cons (pv 3) pa_nil)) rfl)
      (pss_cons (ps_fld (pv 0) (pe_cmpR op_eq (pv 7) pe_int (nomark _)) rfl)
      (pss_one (ps_fld (pv 0) (pe_callB (cr_any rfl) (by rfl) nA (by decide +kernel) (pa_cons (pe_lc (own := [("step", 6)]) (g := gName 6) (te := (tCall spNamesRow _ _ _))  (by rfl) sc_Door_init.nd (pi_list (pv 3)) (blkOk_by (own := [("step", 6)]) (N := ["self", "name", "lines", "steps", "at", "line", "step", "crossings"]) (sc := defScope s_Door_init) (by decide +kernel)) (fun _ _ _ _ _ => (pg_name (i := 6) sc_Door_init.nd rfl (Or.inl rfl))) (fun _ _ _ _ _ => pts_nil) (fun _ _ _ _ _ => (pe_call GSn hrSn rfl mSn FSn.kp bSn .nil pass0 (pa_cons (pv 6) pa_nil)))) pa_nil)) rfl))))))))))), ?_⟩
  have hrl := paired_lenD ok.rd
  have few := ok.few
  refine ⟨_, rfl, .inl ⟨nm, rfl, ok.nlen, fun H1 s1 => ⟨_, rfl, ?_⟩⟩⟩
  rw [ok.word]
  refine iteF ?_
  refine ⟨Nat.zero_le _, fun D hD => ?_⟩
  have hDH := Same.noneN s1 hD
  have s2 := s1.trans (Same.new (o := .lst []) hD)
  have hD2 := upd_same (H := H1) (a := D) (o := .lst [])
  generalize upd H1 D (.lst []) = H2 at s2 hD2 ⊢
  refine ⟨_, rfl, L, _, rfl, SqT.of (s2 _ _ hL), ?_⟩
  refine for_it (walk_enumT (xs := zs.map V.str)) (fun i σ' H' => ∃ (x4 x5 x6 : Option V) (ss : List V), σ' = [some (.ref x), some (.str nm), some (.ref L), some (.ref D), x4, x5, x6, none] ∧ Same H H' ∧ H' D = some (.lst ss) ∧ Paired (StepAt H') ss (ts.take i)) ⟨_, _, _, [], rfl, s2, hD2, .nil⟩ (fun i σ' H' _ ⟨_, _, _, _, _, h, _⟩ => SqT.of (h _ _ hL)) ?_ ?_
  · rintro i v σ' H' H3 hi ⟨x4, x5, x6, ss, rfl, s', hD', hss⟩ ⟨T2, a1, y, rfl, hT2, rfl, ex, ey⟩
    obtain rfl : V.int (i : Nat) = a1 := Option.some.inj ex
    rw [List.length_map] at hi
    dsimp only at ey
    rw [List.getElem?_map, List.getElem?_eq_getElem hi] at ey
    obtain rfl := Option.some.inj ey
    obtain ⟨t, ht, hrd⟩ := paired_get ok.rd (List.getElem?_eq_getElem hi)
    have hrd : readLine zs[i] = some t := hrd
    have sT : Same H' (upd H' T2 (.tup [.int (i : Nat), .str zs[i]])) := Same.new hT2
    refine ⟨T2, _, rfl, SqT.of upd_same, rfl, _, _, rfl, _, _, rfl, rfl, ?_⟩
    refine ⟨_, rfl, .inl ⟨zs[i], rfl, ok.ok _ (List.getElem_mem hi), fun hn _ _ => (by rw [hrd] at hn; cases hn), fun t' ht' v H4 s4 hv => ?_⟩⟩
    obtain rfl : t = t' := Option.some.inj (hrd.symm.trans ht')
    refine ⟨_, rfl, rfl, false, congrArg V.bl (decide_eq_false hv.ne), iteF ?_⟩
    have s5 := sT.trans s4
    have hD4 := s5 _ _ hD'
    have hsl : ss.length ≤ 6 := by
      have := paired_lenD hss
      rw [List.length_take] at this
      omega
    refine ⟨_, rfl, .inl ⟨rfl, _, SqL.of hD4⟩, _, rfl, D, _, _, rfl, rfl, hD4, Nat.lt_of_le_of_lt hsl (by decide), ?_⟩
    have tk := TupK.lst (o := .lst (ss ++ [v])) hD4
    refine ⟨_, _, _, ss ++ [v], rfl, Same.updN (s'.trans s5) hDH, upd_same, ?_⟩
    rw [List.take_succ, ht]
    exact paired_snoc (L2.Paired.mapP hss fun _ _ h => (h.keep (.of s5)).keep tk) (hv.keep tk)
  rintro σ' H3 ⟨x4, x5, x6, ss, rfl, s3, hD3, hss⟩
  rw [List.length_map, hrl, List.take_length] at hss
  have hsl : ss.length = ts.length := paired_lenD hss
  have lens : ∀ (i : Nat) (t : StepD), ts[i]? = some t → Lens t := fun i t ht => by
    have e : zs[i]? = some (zs[i]'(by rw [hrl]; exact (List.getElem?_eq_some_iff.mp ht).1)) := List.getElem?_eq_getElem _
    obtain ⟨t', ht', hrd⟩ := paired_get ok.rd e
    rw [ht] at ht'
    obtain rfl := Option.some.inj ht'
    exact readLine_lens hrd
  have hds : HdAt H3 ss (ts.map StepD.word) := hd_of (fun _ _ _ h => StepAt.hd h) hss
  refine ⟨fun σ' H' => σ' = [some (.ref x), some (.str nm), some (.ref L), some (.ref D), x4, x5, x6, some (.int ((ts.filter touchB).length : Nat))] ∧ Same H3 H', ?_, ?_⟩
  · refine ⟨_, rfl, D, rfl, ⟨_, SqL.of hD3⟩, fun E1 hE1 => lc_fil (walk_list (xs := ss)) (okOf ts touchB) (vlOf ss fun v => v) hE1 (by omega) (fun H2 s2 => SqL.of (s2 _ _ hD3)) ?_ ?_⟩
    · rintro i v Ha Hb hi sa ⟨rfl, hv⟩ N1 N0 h1 h0
      obtain ⟨t, ht, hvt⟩ := paired_get hss hv
      have e1 : okOf ts touchB i = touchB t := by unfold okOf; rw [ht]
      have e2 : vlOf ss (fun v => v) i = v := by unfold vlOf; rw [hv]
      rw [e1] at h1 h0
      rw [e2] at h1
      refine ⟨rfl, _, rfl, v, t, rfl, hvt.keep (.of sa), lens i t ht, fun H5 s5 => ⟨_, rfl, ?_⟩⟩
      cases c : touchB t with
      | true => exact iteT ⟨_, rfl, h1 c _ s5⟩
      | false => exact iteF (h0 c _ s5)
    · intro H4 s4 hE4
      refine ⟨_, _, rfl, .inl ⟨_, SqL.of hE4, rfl⟩, ?_⟩
      rw [hsl, fil_count]
      exact ⟨rfl, s4⟩
  rintro σ' H4 ⟨rfl, s4⟩
  have hD4 := s4 _ _ hD3
  have is0 : ∀ n : Nat, n ≠ 0 → decide (V.int (n : Int) = V.int 0) = false := fun n h => decide_eq_false fun e => h (by have := V.int.inj e; omega)
  refine ⟨_, rfl, _, _, rfl, .inl ⟨_, SqL.of hD4, rfl⟩, _, _, rfl, rfl, false, congrArg V.bl (decide_eq_false (by omega)), iteF ?_⟩
  refine ⟨_, rfl, by show 1 ≤ sizeLine; decide, fun t1 ht1 => ?_⟩
  have s5 := s4.trans (Same.new (o := .tup [.str "do"]) ht1)
  have e5 := upd_same (H := H4) (a := t1) (o := .tup [.str "do"])
  generalize upd H4 t1 (.tup [.str "do"]) = H5 at s5 e5 ⊢
  refine ⟨D, t1, ss, _, ["do"], rfl, .inl (s5 _ _ hD3), hds.keep (.of s5), by omega, fun H' s' => SqT.of (s' _ _ e5), fun H6 s6 => ⟨rfl, false, congrArg V.bl (is0 _ ok.deeds), iteF ?_⟩⟩
  refine ⟨_, rfl, by show 1 ≤ sizeLine; decide, fun t2 ht2 => ?_⟩
  have s7 := (s5.trans s6).trans (Same.new (o := .tup [.str "hold"]) ht2)
  have e7 := upd_same (H := H6) (a := t2) (o := .tup [.str "hold"])
  generalize upd H6 t2 (.tup [.str "hold"]) = H7 at s7 e7 ⊢
  have hol := ok.holds
  have crs := ok.cross
  refine ⟨D, t2, ss, _, ["hold"], rfl, .inl (s7 _ _ hD3), hds.keep (.of s7), by omega, fun H' s' => SqT.of (s' _ _ e7), fun H8 s8 => ⟨_, _, rfl, rfl, false, congrArg V.bl (decide_eq_false (by omega)), iteF ?_⟩⟩
  refine ⟨_, rfl, _, _, rfl, rfl, false, congrArg V.bl (decide_eq_false (by omega)), iteF ?_⟩
  have s38 := s7.trans s8
  have s08 := s3.trans s38
  have hx8 := s08 _ _ hx
  have hL8 := s08 _ _ hL
  have hD8 := s38 _ _ hD3
  have hss8 : Paired (StepAt H8) ss ts := L2.Paired.mapP hss fun _ _ h => h.keep (.of s38)
  have nxL : L ≠ x := fun e => by rw [e, hx8] at hL8; cases hL8
  have nxD : D ≠ x := fun e => by rw [e, hx8] at hD8; cases hD8
  have tkx : ∀ {H' : Hp}, Kp x H8 H' → TupK H8 H' := fun kp b xs e => kp _ _ e fun q => by rw [q, hx8] at e; cases e
  -- name
  refine ⟨_, rfl, _, rfl, x, C, dx, [], rfl, hx8, DC.cl, DC.nn, by show 0 + 1 ≤ _; decide, ?_⟩
  have k9 : Kp x H8 _ := Kp.upd (p := x) (H := H8) (o := .ins C dx (putF "name" (.str nm) []))
  have x9 := upd_same (H := H8) (a := x) (o := .ins C dx (putF "name" (.str nm) []))
  generalize upd H8 x (.ins C dx (putF "name" (.str nm) [])) = H9 at k9 x9 ⊢
  -- lines
  refine ⟨_, rfl, L, _, rfl, .inr ⟨SqT.of (k9 _ _ hL8 nxL), _, rfl, x, C, dx, _, rfl, x9, DC.cl, DC.nl, by show 1 + 1 ≤ _; decide, ?_⟩⟩
  have k10 := k9.trans (Kp.upd (p := x) (H := H9) (o := .ins C dx (putF "lines" (.ref L) (putF "name" (.str nm) []))))
  have x10 := upd_same (H := H9) (a := x) (o := .ins C dx (putF "lines" (.ref L) (putF "name" (.str nm) [])))
  generalize upd H9 x (.ins C dx (putF "lines" (.ref L) (putF "name" (.str nm) []))) = H10 at k10 x10 ⊢
  -- steps
  refine ⟨_, rfl, D, ss, rfl, .inl ⟨SqL.of (k10 _ _ hD8 nxD), fun S hS => ?_⟩⟩
  have kS := k10.trans (Kp.of (Same.new (o := .tup ss) hS))
  have xS := Same.new (o := .tup ss) hS _ _ x10
  have hS1 := upd_same (H := H10) (a := S) (o := .tup ss)
  have nxS : S ≠ x := fun e => by rw [e, x10] at hS; cases hS
  generalize upd H10 S (.tup ss) = HS at kS xS hS1 ⊢
  refine ⟨_, rfl, x, C, dx, _, rfl, xS, DC.cl, DC.ns, by show 2 + 1 ≤ _; decide, ?_⟩
  have k11 := kS.trans (Kp.upd (p := x) (H := HS) (o := .ins C dx (putF "steps" (.ref S) (putF "lines" (.ref L) (putF "name" (.str nm) [])))))
  have x11 := upd_same (H := HS) (a := x) (o := .ins C dx (putF "steps" (.ref S) (putF "lines" (.ref L) (putF "name" (.str nm) []))))
  have hS2 : upd HS x (.ins C dx (putF "steps" (.ref S) (putF "lines" (.ref L) (putF "name" (.str nm) [])))) S = some (.tup ss) := by rw [upd_ne nxS]; exact hS1
  generalize upd HS x (.ins C dx (putF "steps" (.ref S) (putF "lines" (.ref L) (putF "name" (.str nm) [])))) = H11 at k11 x11 hS2 ⊢
  -- touches
  refine ⟨_, rfl, rfl, _, rfl, x, C, dx, _, rfl, x11, DC.cl, DC.nt, by show 3 + 1 ≤ _; decide, ?_⟩
  rw [show decide (V.int ((ts.filter touchB).length : Nat) = V.int 1) = touches ts by unfold touches; congr 1; exact propext ⟨fun e => by have := V.int.inj e; omega, fun e => by rw [e]; rfl⟩]
  have k12 := k11.trans (Kp.upd (p := x) (H := H11) (o := .ins C dx (putF "touches" (.bl (touches ts)) (putF "steps" (.ref S) (putF "lines" (.ref L) (putF "name" (.str nm) []))))))
  have x12 := upd_same (H := H11) (a := x) (o := .ins C dx (putF "touches" (.bl (touches ts)) (putF "steps" (.ref S) (putF "lines" (.ref L) (putF "name" (.str nm) [])))))
  have hS3 : upd H11 x (.ins C dx (putF "touches" (.bl (touches ts)) (putF "steps" (.ref S) (putF "lines" (.ref L) (putF "name" (.str nm) []))))) S = some (.tup ss) := by rw [upd_ne nxS]; exact hS2
  generalize upd H11 x (.ins C dx (putF "touches" (.bl (touches ts)) (putF "steps" (.ref S) (putF "lines" (.ref L) (putF "name" (.str nm) []))))) = H12 at k12 x12 hS3 ⊢
  -- names_row
  have hD12 := k12 _ _ hD8 nxD
  have hss12 : Paired (StepAt H12) ss ts := L2.Paired.mapP hss8 fun _ _ h => h.keep (tkx k12)
  refine ⟨_, rfl, D, rfl, ⟨_, SqL.of hD12⟩, fun E2 hE2 => lc_vals (ys := ts.map fun t => V.bl (rowB t)) (by rw [List.length_map, hsl]) hD12 hE2 (by omega) (fun _ => rfl) (fun i v y hv hy H' s' Qe qk => ?_) fun H13 s13 hE3 => ?_⟩
  · obtain ⟨t, ht, hvt⟩ := paired_get hss12 hv
    rw [List.getElem?_map, ht] at hy
    obtain rfl := Option.some.inj hy
    exact ⟨_, rfl, v, t, rfl, hvt.keep (.of s'), lens i t ht, fun H5 s5 => qk _ s5⟩
  refine ⟨E2, ts.map rowB, rfl, SqL.of (by rw [hE3, List.map_map]; rfl), ?_⟩
  rw [show (ts.map rowB).any id = ts.any rowB by rw [List.any_map]; rfl]
  have k13 := k12.trans (Kp.of s13)
  refine ⟨_, rfl, x, C, dx, _, rfl, s13 _ _ x12, DC.cl, DC.nr, by show 4 + 1 ≤ _; decide, ?_⟩
  have k14 := k13.trans (Kp.upd (p := x) (H := H13) (o := .ins C dx (fsD nm L S ts)))
  refine k S ss _ upd_same (fun b o e n => k14 _ _ (s08 _ _ e) n) ?_ (L2.Paired.mapP hss8 fun _ _ h => h.keep (tkx k14))
  rw [upd_ne nxS]
  exact s13 _ _ hS3
end
end Dr

set_option Elab.async false
set_option linter.all false
set_option maxRecDepth 100000
set_option maxHeartbeats 4000000
/-! C(e, .., *y), C a class of the module. -/
namespace Cs
open PySem PySem.Spec PyProof.Rows L2
theorem pe_mkM {X : Cx} {CX : CXT} {k : Nat} {f C : Addr} {sp : Sp} {E : XK} {x : Str} {e : Expr} {es : List Expr} {t : TA} {p pos : Pos} (M : Mk X.K C f) (F : FnR X.prog X.w X.K X.mg X.base CX k f sp) (hr : Room (k + 1) X.A) (hg : Gl X x) (hm : X.mg x = some (.ref C)) (hx : Passes CX X E) (ha : PA X (e :: es) t) (hdb : (x == ("__debug__" : Str)) = false := by decide)
    (he : starEach (e :: es) X.env = (false, eval e X.env) :: starEach es X.env := by rfl) (hst : (backTo pos (starEach es X.env)).any (·.1) = true := by rfl) : PE X (.Call (.Name x p) (e :: es) [] pos) (StX.tMakeR C sp E t) := by
  refine ⟨fun pins s σ H Q I h => ?_⟩
  refine wpAny_Call_Name_kw (ld_glob I hg hm ?_ hdb)
  exact PySem.W.callWith_S2 (h₀ := X.base) I.ok.mod.kin M.kp (thn (ha.run pos pins s σ H _ I h) fun us s1 ⟨vs, H1, I1, r, q⟩ => ⟨I1.kIn, StX.run_makeR M F hr hx I1 r q⟩) he hst
end Cs

set_option Elab.async false
set_option linter.all false
set_option maxRecDepth 100000
set_option maxHeartbeats 8000000
set_option pp.maxSteps 700
/-! Doors made. -/
namespace Dr
open PySem PySem.Spec PyProof.Rows L2 Cs
/-- c(e, .., *y), c a local name that holds the class -/
theorem pe_mkML {X : Cx} {CX : CXT} {k i : Nat} {f C : Addr} {sp : Sp} {E : XK} {x : Str} {e : Expr} {es : List Expr} {t : TA} {p pos : Pos} (M : Mk X.K C f) (F : FnR X.prog X.w X.K X.mg X.base CX k f sp) (hr : Room (k + 1) X.A) (hN : X.N[i]? = some x) (hv : Vis X.env.scope x) (hx : Passes CX X E) (ha : PA X (e :: es) t) (hdb : (x == ("__debug__" : Str)) = false := by decide)
    (hcd : (x == ("__classdict__" : Str)) = false := by decide) (he : starEach (e :: es) X.env = (false, eval e X.env) :: starEach es X.env := by rfl) (hst : (backTo pos (starEach es X.env)).any (·.1) = true := by rfl) : PE X (.Call (.Name x p) (e :: es) [] pos) (fun σ H Q => σ[i]? = some (some (.ref C)) ∧ StX.tMakeR C sp E t σ H Q) := by
  refine ⟨fun pins s σ H Q I h => ?_⟩
  obtain ⟨hs, h⟩ := h
  refine wpAny_Call_Name_kw (thn ((pe_var (pos := p) hN hv hdb hcd).run pins s σ H (fun v H1 => v = .ref C ∧ H1 = H) I ⟨.ref C, hs, rfl, rfl⟩) fun u s0 ⟨v, H0, I0, r0, q0⟩ => ?_)
  obtain ⟨rfl, rfl⟩ := q0
  cases r0
  exact PySem.W.callWith_S2 (h₀ := X.base) I.ok.mod.kin M.kp (thn (ha.run pos pins s0 σ _ _ I0 h) fun us s1 ⟨vs, H1, I1, r, q⟩ => ⟨I1.kIn, StX.run_makeR M F hr hx I1 r q⟩) he hst
def DoorAt (C : Addr) (H : Hp) (p : Addr) (nm : Str) (zs : List Str) (ts : List StepD) : Prop := ∃ (dx L S : Addr) (ss : List V), H p = some (.ins C dx (fsD nm L S ts)) ∧ H L = some (.tup (zs.map V.str)) ∧ H S = some (.tup ss) ∧ Paired (StepAt H) ss ts
theorem DoorAt.same {C : Addr} {H H' : Hp} {p : Addr} {nm : Str} {zs : List Str} {ts : List StepD} (s : Same H H') (h : DoorAt C H p nm zs ts) : DoorAt C H' p nm zs ts := by
  obtain ⟨dx, L, S, ss, h1, h2, h3, h4⟩ := h
  exact ⟨dx, L, S, ss, s _ _ h1, s _ _ h2, s _ _ h3, L2.Paired.mapP h4 fun _ _ h => h.keep (.of s)⟩
def spDoor (C : Addr) : Sp := fun vs H Q _ => ∃ (x dx : Addr) (nm : Str) (zs : List Str) (ts : List StepD), vs = .ref x :: .str nm :: zs.map V.str ∧ H x = some (.ins C dx []) ∧ DoorOk nm zs ts ∧
  ∀ H', DoorAt C H' x nm zs ts → (∀ b o, H b = some o → b ≠ x → H' b = some o) → Q .non H'
section
variable {P : Program} {w : World} {K : PySem.W.Frag} {mg : Str → Option Value} {base : Heap}
theorem ok_door {C f fIw fRl fHm fSt fSn : Addr} {fdIw fdRl fdHm fdSt fdSn : FuncData} {oc od kV doc pm an cdv ct osl} (g : Bi mg) (nA : mg "any" = none) (DC : DoC K C)
    (FIw : Def P w K mg base CX0 1 "is_word" ["thing"] (spIsWord K) fIw fdIw) (FRl : Def P w K mg base CX0 7 "read_line" ["line"] (spReadLine K) fRl fdRl) (FHm : Def P w K mg base CX0 1 "how_many" ["parts", "words"] (spHowMany K) fHm fdHm)
    (FSt : Def P w K mg base CX0 2 "step_touches" ["step"] spTouches fSt fdSt) (FSn : Def P w K mg base CX0 2 "step_names_row" ["step"] spNamesRow fSn fdSn)
    (lk : K.lookup f = some ⟨oc, od, .func (PySem.W.fnOf "__init__" "Door.__init__" (defArgs s_Door_init) (defBody s_Door_init) (defScope s_Door_init) .none kV doc pm an cdv ct), osl⟩) (hcd : PySem.W.codeIn K cdv "Door.__init__" = true) :
    FnR P w K mg base CX0 8 f (spDoor C) := by
  have G := StX.fn_star (P := P) (w := w) (mg := mg) (base := base) (CX := CX0) (k := 7) (ps := ["self", "name"]) (pv := "lines") (sp := spDoorB K C) lk hcd sc_Door_init StX.cxUp_none
    (fun us rest hl => match us, rest, hl with | [a, b], [], _ => rfl | [a, b], r :: rs, _ => rfl)
    (fun A outer s H vs Q E hr h => by
      obtain ⟨t, a, b⟩ := door_body (P := P) (w := w) (mg := mg) (base := base) (outer := outer) (s := s) g nA DC FIw FRl FHm FSt FSn hr h
      exact ⟨t, a.nox, b⟩)
  refine G.imp fun vs H Q E h => ?_
  obtain ⟨x, dx, nm, zs, ts, rfl, hx, ok, k⟩ := h
  have hzl : zs.length ≤ 6 := by rw [paired_lenD ok.rd]; exact ok.few
  refine ⟨[.ref x, .str nm], zs.map V.str, rfl, rfl, by rw [List.length_map]; exact Nat.le_trans hzl (by decide), fun p hp => ?_⟩
  have s1 : Same H (upd H p (.tup (zs.map V.str))) := Same.new hp
  refine ⟨x, dx, p, nm, zs, ts, rfl, s1 _ _ hx, upd_same, ok, fun S ss H' h1 h2 h3 h4 => k H' ⟨dx, p, S, ss, h1, h2 _ _ upd_same (ne_of_none hx hp).symm, h3, h4⟩ fun b o e n => h2 b o (s1 _ _ e) n⟩
theorem mk_door {C : Addr} {nm : Str} {zs : List Str} {ts : List StepD} {H : Hp} {Q : Addr → Hp → Prop} {E : XK} (ok : DoorOk nm zs ts) (k : ∀ x H', H x = none → Same H H' → DoorAt C H' x nm zs ts → Q x H') :
    ∀ x dx, H x = none → H dx = none → dx ≠ x → spDoor C (V.ref x :: V.str nm :: zs.map V.str) (upd (upd H dx (.own x)) x (.ins C dx [])) (fun v H2 => v = .non ∧ Q x H2) E := by
  intro x dx hx hdx ne
  have s1 : Same H (upd H dx (.own x)) := Same.new hdx
  have hx1 : (upd H dx (.own x)) x = none := by rw [upd_ne ne.symm]; exact hx
  have s12 := s1.trans (Same.new (o := .ins C dx []) hx1)
  exact ⟨x, dx, nm, zs, ts, rfl, upd_same, ok, fun H' h1 h2 => ⟨rfl, k x H' hx (fun b o e => h2 _ _ (s12 _ _ e) (ne_of_none e hx)) h1⟩⟩
def spDoorOf (C : Addr) : Sp := fun vs H Q _ => ∃ (a : Addr) (nm : Str) (zs : List Str) (ts : List StepD), vs = [.ref C, .str nm, .ref a] ∧ H a = some (.lst (zs.map V.str)) ∧ DoorOk nm zs ts ∧ ∀ x H', H x = none → Same H H' → DoorAt C H' x nm zs ts → Q (.ref x) H'
theorem ok_door_of {C f fI : Addr} {fd : FuncData} (F : Fun K "of" "Door.of" s_Door_of f fd) (MK : Mk K C fI) (IK : FnR P w K mg base CX0 8 fI (spDoor C)) : FnOk P w K mg base CX0 10 f fd ["cls", "name", "lines"] (spDoorOf C) := by
  refine F.ok sc_Door_of (fun vs H Q E h => ?_) (fun cdv A outer s H vs Q E hr h => ?_)
  · obtain ⟨_, _, _, _, rfl, _⟩ := h
    rfl
  · obtain ⟨a, nm, zs, ts, rfl, ha, ok, k⟩ := h
    have hrI : Room 9 _ := hr
    refine ⟨_, (pss_one (ps_ret (pe_mkML (i := 0) MK IK hrI rfl (Or.inl rfl) pass0 (pa_cons (pv 1) (StX.pa_star (pv 2) pa_nil))))), ?_⟩
    refine ⟨rfl, _, rfl, _, rfl, a, _, rfl, .inr (SqL.of ha), ?_⟩
    intro x dx hx hdx ne
    have q := mk_door (C := C) (E := E) (Q := fun x H' => Q (.ref x) H') ok (fun x H' hx s' h' => k x H' hx s' h') x dx hx hdx ne
    rw [← List.append_nil (zs.map V.str)] at q
    exact q
def spLenD (C : Addr) : Sp := fun vs H Q _ => ∃ (p : Addr) (nm : Str) (zs : List Str) (ts : List StepD), vs = [.ref p] ∧ DoorAt C H p nm zs ts ∧ Q (.int (zs.length : Nat)) H
theorem ok_door_len {C f : Addr} {fd : FuncData} (F : Fun K "__len__" "Door.__len__" s_Door_len f fd) (g : Bi mg) (DC : DoC K C) : FnOk P w K mg base CX0 1 f fd ["self"] (spLenD C) := by
  refine F.ok sc_Door_len (fun vs H Q E h => ?_) (fun cdv A outer s H vs Q E hr h => ?_)
  · obtain ⟨_, _, _, _, rfl, _⟩ := h
    rfl
  · obtain ⟨p, nm, zs, ts, rfl, ⟨dx, L, S, ss, hp, hL, hS, hss⟩, k⟩ := h
    refine ⟨_, (pss_one (ps_ret (pe_callB call_len (by rfl) g.len PySem.boot_len (pa_cons (pe_fld (pv 0) rfl) pa_nil)))), ?_⟩
    refine ⟨_, rfl, p, _, dx, _, _, rfl, hp, DC.cl, DC.nl, rfl, _, _, rfl, .inr ⟨_, SqT.of hL, rfl⟩, ?_⟩
    rw [List.length_map]
    exact k
def allKinds (ts : List StepD) : List Str := ts.flatMap stepKinds
def spMention (C : Addr) : Sp := fun vs H Q _ => ∃ (p : Addr) (nm : Str) (zs : List Str) (ts : List StepD), vs = [.ref p] ∧ DoorAt C H p nm zs ts ∧ (∀ t ∈ ts, (rawKinds t).length ≤ 10000) ∧ (allKinds ts).length ≤ 1000 ∧
  ∀ (q : Addr) (H' : Hp) (ws : List Str), H q = none → Same H H' → H' q = some (.lst (ws.map V.str)) → Asc ws → (∀ z, z ∈ ws ↔ z ∈ allKinds ts) → Q (.ref q) H'
end
end Dr

set_option Elab.async false
set_option linter.all false
set_option maxRecDepth 100000
set_option maxHeartbeats 4000000
/-! Comparisons of an own class: == by its own __eq__, != by object.__ne__; dicts of words and integers compared. -/
namespace Cs
open PySem PySem.Spec PyProof.Rows L2
section
variable {M : Model} {prog : Program} {w : World} {A : Around} {E : Value → Shared → Prop} {s : Shared} {K : PySem.W.Frag} {x C f : Addr} {ox : Obj} {od : Option Obj}
theorem ifBound_objNe {args : List Value} {Q : Option Value → Shared → Prop} (X : K.In s.heap) (I : PySem.W.InstAt s.heap x ox C od) (hs : PySem.W.findIn K (.ref C) "__ne__" = some (some (.builtin "object.__ne__")))
    (h : wpAny M A (call (.builtin "object.__ne__") (.ref x :: args)) (fun v => Q (some v)) E s) : wpAny M A (callSpecialIfBound? (.ref x) "__ne__" args) Q E s := by
  simp only [callSpecialIfBound?, bindSpecialIfBound?]
  refine wpAny_holding (wpAny_bind (wpAny_bind (wpAny_bind (I.type.here ((PySem.W.looks_findIn X hs).here ?_)))))
  refine wpAny_bind (wpAny_askSetting (wpAny_ite ?_))
  have fin : wpAny M A (call (.builtin "object.__ne__") ([.ref x] ++ args) >>= fun v => pure (some v)) Q E s := wpAny_bind (wpAny_mono h (fun v s' h' => wpAny_pure h') fun _ _ h' => h')
  split
  · exact wpAny_bind (wpAny_of_eq (F.cmp_object.ne.bind _) (wpAny_pure (by exact fin)))
  · exact wpAny_tryCatch (wpAny_bind (wpAny_of_eq (F.cmp_object.ne.bind _) (wpAny_pure (by exact fin))))
theorem objNe_own {b : Value} {Q : Fin → Shared → Prop} (hu : A.units < cLine) (X : K.In s.heap) (I : PySem.W.InstAt s.heap x ox C od) (hs : PySem.W.findIn K (.ref C) "__eq__" = some (some (.ref f))) (hf : PySem.W.isFn K (.ref f) = true)
    (h : wpAny (model prog w) A (call (.ref f) [.ref x, b]) (fun v s' => ∃ k, v = .bool k ∧ Q (.done (.ret (.bool (!k)))) s') E s) : wpAny (model prog w) A (Builtin.«object.__ne__» ⟨[.ref x, b], []⟩) Q E s := by
  unfold Builtin.«object.__ne__»
  repeat (first
    | with_reducible refine wpAny_cRoomFor hu ?_
    | (refine wpAny_bind (m := callSpecialIfBound? (.ref x) (Str.ofString "__eq__") [b])
        (PySem.W.ifBound_K X I hs hf (wpAny_mono h (fun r s' hr => by
          obtain ⟨b, rfl, hq⟩ := hr
          repeat (first | exact hq | exact wpAny_pure hq | exact wpAny_truthy_bool hq | (refine wpAny_bind (m := truthy (.bool _)) (wpAny_truthy_bool ?_)) | wp_step)) fun _ _ e => e)))
    | wp_step)
theorem call_objNe {b : Value} {Q : Value → Shared → Prop} (hu : A.units + 1 < cLine) (X : K.In s.heap) (I : PySem.W.InstAt s.heap x ox C od) (hm : PySem.W.mroIn K C (.type "object") = some true) (hs : PySem.W.findIn K (.ref C) "__eq__" = some (some (.ref f))) (hf : PySem.W.isFn K (.ref f) = true)
    (h : wpAny (model prog w) A.in1 (call (.ref f) [.ref x, b]) (fun v s' => ∃ k, v = .bool k ∧ Q (.bool (!k)) s') E s) : wpAny (model prog w) A (call (.builtin "object.__ne__") [.ref x, b]) Q E s :=
  wpAny_call (codeAny_call_builtin F.cmp_object.ne.plain F.cmpEntry_ne (PySem.W.check_slot F.cmpKind_ne F.cmpSplit_ne (I.type.andThen (PySem.W.looks_mroIn X hm)) (F.cmpArgs_ne _ _) (objNe_own (A := A.in1) hu X I hs hf (wpAny_mono h (fun v s' z => by
    obtain ⟨k, rfl, q⟩ := z
    exact ⟨k, rfl, q⟩) fun _ _ e => e))))
theorem ne_own {b tb : Value} {Q : Value → Shared → Prop} (hu : A.units + 1 < cLine) (X : K.In s.heap) (I : PySem.W.InstAt s.heap x ox C od) (hb : PySem.W.Looks (model prog w) s.heap (typeOf b) tb) (hn : PySem.W.notFirst K C tb = true)
    (hm : PySem.W.mroIn K C (.type "object") = some true) (hne : PySem.W.findIn K (.ref C) "__ne__" = some (some (.builtin "object.__ne__"))) (hs : PySem.W.findIn K (.ref C) "__eq__" = some (some (.ref f))) (hf : PySem.W.isFn K (.ref f) = true)
    (h : wpAny (model prog w) A.in1 (call (.ref f) [.ref x, b]) (fun v s' => ∃ k, v = .bool k ∧ Q (.bool (!k)) s') E s) : wpAny (model prog w) A (compareOp .NotEq (.ref x) b) Q E s := by
  have one : wpAny (model prog w) A (tryCompare (.ref x) "__ne__" b) (fun r s' => ∃ v, r = some v ∧ Q v s') E s := by
    unfold tryCompare
    refine wpAny_bind (ifBound_objNe X I hne (call_objNe hu X I hm hs hf (wpAny_mono h (fun v s' z => ?_) fun _ _ e => e)))
    obtain ⟨k, rfl, q⟩ := z
    exact ⟨k, rfl, wpAny_pure ⟨_, rfl, q⟩⟩
  show wpAny (model prog w) A (richCompare .NotEq (.ref x) b) Q E s
  unfold richCompare
  simp only [oneThing_ref]
  refine wpAny_holding (wpAny_bind (wpAny_cRoomFor (Nat.lt_of_succ_lt hu) ?_))
  refine wpAny_bind (I.type.here (wpAny_bind (hb.here ?_)))
  split
  · rename_i q
    have e : PySem.W.subIn K tb (.ref C) = some false := by
      rcases Bool.or_eq_true_iff.mp hn with e | e
      · rw [beq_iff_eq.mp e] at q; simp at q
      · exact beq_iff_eq.mp e
    refine wpAny_bind ((PySem.W.looks_subIn X e).here ?_)
    simp only [Bool.false_eq_true, if_false]
    refine wpAny_bind (wpAny_mono one (fun r s' z => ?_) fun _ _ e => e)
    obtain ⟨v, rfl, hq⟩ := z
    exact wpAny_pure hq
  · refine wpAny_bind (wpAny_pure ?_)
    simp only [Bool.false_eq_true, if_false]
    refine wpAny_bind (wpAny_mono one (fun r s' z => ?_) fun _ _ e => e)
    obtain ⟨v, rfl, hq⟩ := z
    exact wpAny_pure hq
end
section
variable {X : Cx} {CX : CXT} {k : Nat} {f C : Addr} {fd : FuncData} {ps : List Str} {sp : Sp} {E : XK}
/-- what == and != ask of the class -/
structure EqC (K : PySem.W.Frag) (C f : Addr) : Prop where
  at_ : PySem.W.findIn K (.ref C) "__eq__" = some (some (.ref f))
  fn : PySem.W.isFn K (.ref f) = true
  ne : PySem.W.findIn K (.ref C) "__ne__" = some (some (.builtin "object.__ne__"))
  hm : PySem.W.mroIn K C (.type "object") = some true
theorem first_self {K : PySem.W.Frag} : PySem.W.notFirst K C (.ref C) = true := by simp [PySem.W.notFirst]
def rEqO (C : Addr) (sp : Sp) (E : XK) : R2 := fun x y H Q => ∃ p q dp dq fp fq, x = .ref p ∧ y = .ref q ∧ H p = some (.ins C dp fp) ∧ H q = some (.ins C dq fq) ∧ sp [.ref p, .ref q] H Q E
def rNeO (C : Addr) (sp : Sp) (E : XK) : R2 := fun x y H Q => ∃ p q dp dq fp fq, x = .ref p ∧ y = .ref q ∧ H p = some (.ins C dp fp) ∧ H q = some (.ins C dq fq) ∧ sp [.ref p, .ref q] H (fun v H' => ∃ b, v = .bl b ∧ Q (.bl (!b)) H') E
theorem op_eqO (c : EqC X.K C f) (F : FnOk X.prog X.w X.K X.mg X.base CX k f fd ps sp) (hr : Room k X.A) (hb : Binds X.K fd ps []) (hx : Passes CX X E) : OpR X (compareOp .Eq) (rEqO C sp E) := by
  intro pins s σ H x y v u Q I rx ry h
  obtain ⟨p, q, dp, dq, fp, fq, rfl, rfl, hp, hq, k⟩ := h
  cases rx
  cases ry
  obtain ⟨ox, od, J, _⟩ := ins_inst I hp
  obtain ⟨oy, oe, J2, _⟩ := ins_inst I hq
  obtain ⟨m, Fr⟩ := I.fr
  show wpAny _ _ (richCompare .Eq (.ref p) (.ref q)) _ _ _
  refine PySem.W.cmp_K (op := .Eq) (tb := .ref C) hr.units0 Fr I.ok.mod.kin J J2.type first_self c.at_ c.fn ?_
  exact wpAny_mono (run_fn (us := [.ref p, .ref q]) (vs := [.ref p, .ref q]) (dvs := []) F hr hb .nil hx I (.cons rfl (.cons rfl .nil)) k) (fun v s' z => back_of z) fun _ _ z => z
theorem op_neO (c : EqC X.K C f) (F : FnOk X.prog X.w X.K X.mg X.base CX k f fd ps sp) (hr : Room (k + 1) X.A) (hb : Binds X.K fd ps []) (hx : Passes CX X E) : OpR X (compareOp .NotEq) (rNeO C sp E) := by
  intro pins s σ H x y v u Q I rx ry h
  obtain ⟨p, q, dp, dq, fp, fq, rfl, rfl, hp, hq, k⟩ := h
  cases rx
  cases ry
  obtain ⟨ox, od, J, _⟩ := ins_inst I hp
  obtain ⟨oy, oe, J2, _⟩ := ins_inst I hq
  refine ne_own (hu_of hr) I.kIn J J2.type first_self c.hm c.ne c.at_ c.fn ?_
  refine wpAny_mono (run_fn1 (us := [.ref p, .ref q]) (vs := [.ref p, .ref q]) F hr hb hx I (.cons rfl (.cons rfl .nil)) k) (fun v s' z => ?_) fun _ _ z => z
  obtain ⟨v', H', I', rv, b, rfl, qq⟩ := z
  cases rv
  exact ⟨b, rfl, .bl (!b), H', I', rfl, qq⟩
end
/-! ### dicts of words and integers -/
def allIn (t u : Tab) : Bool := t.all fun q => decide (look u q.1 = some q.2)
theorem hits_tab {A : Around} {s : Shared} {u : Tab} {vb : List (Key × Value)} (rb : KV (tv u) vb) : ∀ {t : Tab} {va : List (Key × Value)}, KV (tv t) va → PySem.W.KeqHits A s vb va (allIn t u)
  | [], _, .nil => .nil
  | q :: t, (k, v) :: va, .cons ⟨h1, h2⟩ r => by
    have h1' : (Sum.inr q.1 : Key) = k := h1
    obtain ⟨tk, rfl⟩ : ∃ tk, v = Value.int q.2 tk := h2
    subst h1'
    have rr : RelO (valV (tv u) (Sum.inr q.1)) (valueAt vb (Sum.inr q.1)) := rb.val _
    rw [tv_val] at rr
    have e : allIn (q :: t) u = (decide (look u q.1 = some q.2) && allIn t u) := rfl
    rw [e]
    cases hl : look u q.1 with
    | none =>
      rw [hl] at rr
      rw [show decide ((none : Option Int) = some q.2) = false from rfl, Bool.false_and]
      exact .miss (by cases hv : valueAt vb (Sum.inr q.1 : Key) with
        | none => rfl
        | some y => rw [hv] at rr; exact absurd rr (by intro z; cases z))
    | some n =>
      rw [hl] at rr
      obtain ⟨y, hy, ry⟩ := RelO.some_of rr
      obtain ⟨tk2, rfl⟩ : ∃ tk, y = Value.int n tk := ry
      have e2 : decide (some n = some q.2) = (q.2 == n) := by
        by_cases c : q.2 = n
        · rw [c]
          simp
        · rw [decide_eq_false (fun z => c (Option.some.inj z).symm)]
          exact (beq_eq_false_iff_ne.mpr c).symm
      rw [e2]
      exact .hit hy (SeqAt.EqAt.int_int _ _ _ _) (hits_tab rb r)
section
variable {X : Cx}
def rEqT : R2 := fun x y H Q => ∃ a b t u, x = .ref a ∧ y = .ref b ∧ H a = some (.dK (tv t)) ∧ H b = some (.dK (tv u)) ∧ Q (.bl (t.length == u.length && allIn t u)) H
def rNeT : R2 := fun x y H Q => ∃ a b t u, x = .ref a ∧ y = .ref b ∧ H a = some (.dK (tv t)) ∧ H b = some (.dK (tv u)) ∧ Q (.bl (!(t.length == u.length && allIn t u))) H
theorem op_eqT (hu : X.A.units < cLine) : OpR X (compareOp .Eq) rEqT := by
  intro pins s σ H x y v u Q I rx ry h
  obtain ⟨a, b, t, u', rfl, rfl, ea, eb, q⟩ := h
  obtain rfl : v = Value.ref a := rx
  obtain rfl : u = Value.ref b := ry
  obtain ⟨_, ya, va, ra, da⟩ := (show ObjOk X.prog X.w H s.heap a (.dK (tv t)) from I.hok a _ ea)
  obtain ⟨_, yb, vb, rb, db⟩ := (show ObjOk X.prog X.w H s.heap b (.dK (tv u')) from I.hok b _ eb)
  have h1 : va.length = t.length := by rw [← ra.length]; exact tv_len t
  have h2 : vb.length = u'.length := by rw [← rb.length]; exact tv_len u'
  exact PySem.W.keq_eq (knd := mixKind X.prog X.w) (r := allIn t u') ya yb da db hu (fun _ => hits_tab rb ra) (fin_bl I q (by rw [h1, h2]))
theorem op_neT (hu : X.A.units < cLine) : OpR X (compareOp .NotEq) rNeT := by
  intro pins s σ H x y v u Q I rx ry h
  obtain ⟨a, b, t, u', rfl, rfl, ea, eb, q⟩ := h
  obtain rfl : v = Value.ref a := rx
  obtain rfl : u = Value.ref b := ry
  obtain ⟨_, ya, va, ra, da⟩ := (show ObjOk X.prog X.w H s.heap a (.dK (tv t)) from I.hok a _ ea)
  obtain ⟨_, yb, vb, rb, db⟩ := (show ObjOk X.prog X.w H s.heap b (.dK (tv u')) from I.hok b _ eb)
  have h1 : va.length = t.length := by rw [← ra.length]; exact tv_len t
  have h2 : vb.length = u'.length := by rw [← rb.length]; exact tv_len u'
  exact PySem.W.keq_ne (knd := mixKind X.prog X.w) (r := allIn t u') ya yb da db hu (fun _ => hits_tab rb ra) (fin_bl I q (by rw [h1, h2]))
end
end Cs

set_option Elab.async false
set_option linter.all false
set_option maxRecDepth 100000
set_option maxHeartbeats 4000000
/-! Order of an own class: <= < by its own methods, >= > by those of the other side; == and != with a value of a built-in type. -/
namespace Cs
open PySem PySem.Spec PyProof.Rows L2
section
variable {M : Model} {prog : Program} {w : World} {A : Around} {E : Value → Shared → Prop} {s : Shared} {K : PySem.W.Frag} {x y C f : Addr} {ox oy : Obj} {od oe : Option Obj}
theorem ifBound_obj {nm : Str} {id : String} {args : List Value} {Q : Option Value → Shared → Prop} (S : Slot "object" nm id) (X : K.In s.heap) (I : PySem.W.InstAt s.heap x ox C od) (hs : PySem.W.findIn K (.ref C) nm = some (some (.builtin id)))
    (h : wpAny M A (call (.builtin id) (.ref x :: args)) (fun v => Q (some v)) E s) : wpAny M A (callSpecialIfBound? (.ref x) nm args) Q E s := by
  simp only [callSpecialIfBound?, bindSpecialIfBound?]
  refine wpAny_holding (wpAny_bind (wpAny_bind (wpAny_bind (I.type.here ((PySem.W.looks_findIn X hs).here ?_)))))
  refine wpAny_bind (wpAny_askSetting (wpAny_ite ?_))
  have fin : wpAny M A (call (.builtin id) ([.ref x] ++ args) >>= fun v => pure (some v)) Q E s := wpAny_bind (wpAny_mono h (fun v s' h' => wpAny_pure h') fun _ _ h' => h')
  split
  · exact wpAny_bind (wpAny_of_eq (S.bind _) (wpAny_pure (by exact fin)))
  · exact wpAny_tryCatch (wpAny_bind (wpAny_of_eq (S.bind _) (wpAny_pure (by exact fin))))
theorem kind_ge : builtinKind "object.__ge__" = some .slot := by decide +kernel
theorem kind_gt : builtinKind "object.__gt__" = some .slot := by decide +kernel
theorem split_ge : splitId "object.__ge__" = some ("object", "__ge__") := by decide +kernel
theorem split_gt : splitId "object.__gt__" = some ("object", "__gt__") := by decide +kernel
theorem try_ge {b : Value} {Q : Option Value → Shared → Prop} (X : K.In s.heap) (I : PySem.W.InstAt s.heap x ox C od) (hm : PySem.W.mroIn K C (.type "object") = some true) (hs : PySem.W.findIn K (.ref C) "__ge__" = some (some (.builtin "object.__ge__"))) (h : Q none s) :
    wpAny (model prog w) A (tryCompare (.ref x) "__ge__" b) Q E s := by
  unfold tryCompare
  refine wpAny_bind (ifBound_obj PySem.F.slot_object_ge X I hs (wpAny_call (codeAny_call_builtin PySem.F.slot_object_ge.plain PySem.F.entry_object_ge (PySem.W.check_slot kind_ge split_ge (I.type.andThen (PySem.W.looks_mroIn X hm)) (PySem.F.args_object_ge_2 _ _) ?_))))
  show wpAny _ _ (slotArgs "__ge__" 1 ⟨[.ref x, b], []⟩ >>= fun _ => ret .notImplemented) _ _ _
  refine wpAny_bind (wpAny_of_eq (a := (.ref x, [b])) (by rfl) ?_)
  refine wpAny_pure ?_
  exact wpAny_pure h
theorem try_gt {b : Value} {Q : Option Value → Shared → Prop} (X : K.In s.heap) (I : PySem.W.InstAt s.heap x ox C od) (hm : PySem.W.mroIn K C (.type "object") = some true) (hs : PySem.W.findIn K (.ref C) "__gt__" = some (some (.builtin "object.__gt__"))) (h : Q none s) :
    wpAny (model prog w) A (tryCompare (.ref x) "__gt__" b) Q E s := by
  unfold tryCompare
  refine wpAny_bind (ifBound_obj PySem.F.slot_object_gt X I hs (wpAny_call (codeAny_call_builtin PySem.F.slot_object_gt.plain PySem.F.entry_object_gt (PySem.W.check_slot kind_gt split_gt (I.type.andThen (PySem.W.looks_mroIn X hm)) (PySem.F.args_object_gt_2 _ _) ?_))))
  show wpAny _ _ (slotArgs "__gt__" 1 ⟨[.ref x, b], []⟩ >>= fun _ => ret .notImplemented) _ _ _
  refine wpAny_bind (wpAny_of_eq (a := (.ref x, [b])) (by rfl) ?_)
  refine wpAny_pure ?_
  exact wpAny_pure h
/-- x >= y, x > y: the other side's own method answers -/
theorem refl_own {op : CmpOp} {Q : Value → Shared → Prop} (hu : A.units < cLine) (X : K.In s.heap) (I : PySem.W.InstAt s.heap x ox C od) (J : PySem.W.InstAt s.heap y oy C oe)
    (dec : ∀ Q' : Option Value → Shared → Prop, Q' none s → wpAny (model prog w) A (tryCompare (.ref x) (cmpInfo op).2.1 (.ref y)) Q' E s)
    (hs : PySem.W.findIn K (.ref C) (cmpInfo op).2.2 = some (some (.ref f))) (hf : PySem.W.isFn K (.ref f) = true)
    (h : wpAny (model prog w) A (call (.ref f) [.ref y, .ref x]) (PySem.W.CmpBack Q) E s) : wpAny (model prog w) A (richCompare op (.ref x) (.ref y)) Q E s := by
  have one : wpAny (model prog w) A (tryCompare (.ref y) (cmpInfo op).2.2 (.ref x)) (fun r s' => ∃ v, r = some v ∧ Q v s') E s := by
    unfold tryCompare
    refine wpAny_bind (PySem.W.ifBound_K X J hs hf (wpAny_mono h (fun v s' hv => ?_) fun _ _ e => e))
    cases v <;> first | exact hv.elim | exact wpAny_pure ⟨_, rfl, hv⟩
  unfold richCompare
  simp only [oneThing_ref]
  refine wpAny_holding (wpAny_bind (wpAny_cRoomFor hu ?_))
  refine wpAny_bind (I.type.here (wpAny_bind (J.type.here ?_)))
  have hne : (Value.ref C != Value.ref C) = false := by simp
  simp only [hne, Bool.false_eq_true, if_false]
  refine wpAny_bind (wpAny_pure ?_)
  simp only [Bool.false_eq_true, if_false]
  refine wpAny_bind (dec _ ?_)
  dsimp only
  simp only [Bool.not_false, if_true]
  refine wpAny_bind (wpAny_mono one (fun r s' z => ?_) fun _ _ e => e)
  obtain ⟨v, rfl, hq⟩ := z
  exact wpAny_pure hq
end
section
variable {X : Cx} {CX : CXT} {k : Nat} {f C : Addr} {fd : FuncData} {ps : List Str} {sp : Sp} {E : XK}
/-- what the order asks of the class -/
structure OrC (K : PySem.W.Frag) (C fle flt : Addr) : Prop where
  le : PySem.W.findIn K (.ref C) "__le__" = some (some (.ref fle))
  lef : PySem.W.isFn K (.ref fle) = true
  lt : PySem.W.findIn K (.ref C) "__lt__" = some (some (.ref flt))
  ltf : PySem.W.isFn K (.ref flt) = true
  ge : PySem.W.findIn K (.ref C) "__ge__" = some (some (.builtin "object.__ge__"))
  gt : PySem.W.findIn K (.ref C) "__gt__" = some (some (.builtin "object.__gt__"))
  hm : PySem.W.mroIn K C (.type "object") = some true
def rCmpR (C : Addr) (sp : Sp) (E : XK) : R2 := fun x y H Q => ∃ p q dp dq fp fq, x = .ref p ∧ y = .ref q ∧ H p = some (.ins C dp fp) ∧ H q = some (.ins C dq fq) ∧ sp [.ref q, .ref p] H Q E
theorem op_leO {g : Addr} (c : OrC X.K C f g) (F : FnOk X.prog X.w X.K X.mg X.base CX k f fd ps sp) (hr : Room k X.A) (hb : Binds X.K fd ps []) (hx : Passes CX X E) : OpR X (compareOp .LtE) (rEqO C sp E) := by
  intro pins s σ H x y v u Q I rx ry h
  obtain ⟨p, q, dp, dq, fp, fq, rfl, rfl, hp, hq, k⟩ := h
  cases rx
  cases ry
  obtain ⟨ox, od, J, _⟩ := ins_inst I hp
  obtain ⟨oy, oe, J2, _⟩ := ins_inst I hq
  obtain ⟨m, Fr⟩ := I.fr
  show wpAny _ _ (richCompare .LtE (.ref p) (.ref q)) _ _ _
  refine PySem.W.cmp_K (op := .LtE) (tb := .ref C) hr.units0 Fr I.ok.mod.kin J J2.type first_self c.le c.lef ?_
  exact wpAny_mono (run_fn (us := [.ref p, .ref q]) (vs := [.ref p, .ref q]) (dvs := []) F hr hb .nil hx I (.cons rfl (.cons rfl .nil)) k) (fun v s' z => back_of z) fun _ _ z => z
theorem op_ltO {g : Addr} (c : OrC X.K C g f) (F : FnOk X.prog X.w X.K X.mg X.base CX k f fd ps sp) (hr : Room k X.A) (hb : Binds X.K fd ps []) (hx : Passes CX X E) : OpR X (compareOp .Lt) (rEqO C sp E) := by
  intro pins s σ H x y v u Q I rx ry h
  obtain ⟨p, q, dp, dq, fp, fq, rfl, rfl, hp, hq, k⟩ := h
  cases rx
  cases ry
  obtain ⟨ox, od, J, _⟩ := ins_inst I hp
  obtain ⟨oy, oe, J2, _⟩ := ins_inst I hq
  obtain ⟨m, Fr⟩ := I.fr
  show wpAny _ _ (richCompare .Lt (.ref p) (.ref q)) _ _ _
  refine PySem.W.cmp_K (op := .Lt) (tb := .ref C) hr.units0 Fr I.ok.mod.kin J J2.type first_self c.lt c.ltf ?_
  exact wpAny_mono (run_fn (us := [.ref p, .ref q]) (vs := [.ref p, .ref q]) (dvs := []) F hr hb .nil hx I (.cons rfl (.cons rfl .nil)) k) (fun v s' z => back_of z) fun _ _ z => z
theorem op_geO {g : Addr} (c : OrC X.K C f g) (F : FnOk X.prog X.w X.K X.mg X.base CX k f fd ps sp) (hr : Room k X.A) (hb : Binds X.K fd ps []) (hx : Passes CX X E) : OpR X (compareOp .GtE) (rCmpR C sp E) := by
  intro pins s σ H x y v u Q I rx ry h
  obtain ⟨p, q, dp, dq, fp, fq, rfl, rfl, hp, hq, k⟩ := h
  cases rx
  cases ry
  obtain ⟨ox, od, J, _⟩ := ins_inst I hp
  obtain ⟨oy, oe, J2, _⟩ := ins_inst I hq
  show wpAny _ _ (richCompare .GtE (.ref p) (.ref q)) _ _ _
  refine refl_own (op := .GtE) hr.units0 I.kIn J J2 (fun Q' q => try_ge I.kIn J c.hm c.ge q) c.le c.lef ?_
  exact wpAny_mono (run_fn (us := [.ref q, .ref p]) (vs := [.ref q, .ref p]) (dvs := []) F hr hb .nil hx I (.cons rfl (.cons rfl .nil)) k) (fun v s' z => back_of z) fun _ _ z => z
theorem op_gtO {g : Addr} (c : OrC X.K C g f) (F : FnOk X.prog X.w X.K X.mg X.base CX k f fd ps sp) (hr : Room k X.A) (hb : Binds X.K fd ps []) (hx : Passes CX X E) : OpR X (compareOp .Gt) (rCmpR C sp E) := by
  intro pins s σ H x y v u Q I rx ry h
  obtain ⟨p, q, dp, dq, fp, fq, rfl, rfl, hp, hq, k⟩ := h
  cases rx
  cases ry
  obtain ⟨ox, od, J, _⟩ := ins_inst I hp
  obtain ⟨oy, oe, J2, _⟩ := ins_inst I hq
  show wpAny _ _ (richCompare .Gt (.ref p) (.ref q)) _ _ _
  refine refl_own (op := .Gt) hr.units0 I.kIn J J2 (fun Q' q => try_gt I.kIn J c.hm c.gt q) c.lt c.ltf ?_
  exact wpAny_mono (run_fn (us := [.ref q, .ref p]) (vs := [.ref q, .ref p]) (dvs := []) F hr hb .nil hx I (.cons rfl (.cons rfl .nil)) k) (fun v s' z => back_of z) fun _ _ z => z
/-- == and != with a value of a built-in type -/
def rEqY (K : PySem.W.Frag) (C : Addr) (sp : Sp) (E : XK) : R2 := fun x y H Q => ∃ p dp fp ty, x = .ref p ∧ H p = some (.ins C dp fp) ∧ TyX K H y (.type ty) ∧ PySem.W.subIn K (.type ty) (.ref C) = some false ∧ sp [.ref p, y] H Q E
def rNeY (K : PySem.W.Frag) (C : Addr) (sp : Sp) (E : XK) : R2 := fun x y H Q => ∃ p dp fp ty, x = .ref p ∧ H p = some (.ins C dp fp) ∧ TyX K H y (.type ty) ∧ PySem.W.subIn K (.type ty) (.ref C) = some false ∧ sp [.ref p, y] H (fun v H' => ∃ b, v = .bl b ∧ Q (.bl (!b)) H') E
theorem not_first {K : PySem.W.Frag} {ty : String} (h : PySem.W.subIn K (.type ty) (.ref C) = some false) : PySem.W.notFirst K C (.type ty) = true := by
  unfold PySem.W.notFirst
  rw [h]
  simp
theorem op_eqY (c : EqC X.K C f) (F : FnOk X.prog X.w X.K X.mg X.base CX k f fd ps sp) (hr : Room k X.A) (hb : Binds X.K fd ps []) (hx : Passes CX X E) : OpR X (compareOp .Eq) (rEqY X.K C sp E) := by
  intro pins s σ H x y v u Q I rx ry h
  obtain ⟨p, dp, fp, ty, rfl, hp, hy, hs, k⟩ := h
  cases rx
  obtain ⟨ox, od, J, _⟩ := ins_inst I hp
  obtain ⟨P, Z, hP, _⟩ := kit_of I ry hy
  obtain ⟨m, Fr⟩ := I.fr
  show wpAny _ _ (richCompare .Eq (.ref p) u) _ _ _
  refine PySem.W.cmp_K (op := .Eq) (tb := .type ty) hr.units0 Fr I.ok.mod.kin J (Z.ty _ _ I.kIn hP) (not_first hs) c.at_ c.fn ?_
  exact wpAny_mono (run_fn (us := [.ref p, u]) (vs := [.ref p, y]) (dvs := []) F hr hb .nil hx I (.cons rfl (.cons ry .nil)) k) (fun v s' z => back_of z) fun _ _ z => z
theorem op_neY (c : EqC X.K C f) (F : FnOk X.prog X.w X.K X.mg X.base CX k f fd ps sp) (hr : Room (k + 1) X.A) (hb : Binds X.K fd ps []) (hx : Passes CX X E) : OpR X (compareOp .NotEq) (rNeY X.K C sp E) := by
  intro pins s σ H x y v u Q I rx ry h
  obtain ⟨p, dp, fp, ty, rfl, hp, hy, hs, k⟩ := h
  cases rx
  obtain ⟨ox, od, J, _⟩ := ins_inst I hp
  obtain ⟨P, Z, hP, _⟩ := kit_of I ry hy
  refine ne_own (hu_of hr) I.kIn J (Z.ty _ _ I.kIn hP) (not_first hs) c.hm c.ne c.at_ c.fn ?_
  refine wpAny_mono (run_fn1 (us := [.ref p, u]) (vs := [.ref p, y]) F hr hb hx I (.cons rfl (.cons ry .nil)) k) (fun v s' z => ?_) fun _ _ z => z
  obtain ⟨v', H', I', rv, b, rfl, qq⟩ := z
  cases rv
  exact ⟨b, rfl, .bl (!b), H', I', rfl, qq⟩
end
end Cs

set_option Elab.async false
set_option linter.all false
set_option maxRecDepth 100000
set_option maxHeartbeats 4000000
/-! repr(o) by an own __repr__. -/
namespace Cs
open PySem PySem.Spec PyProof.Rows L2
/-- isinstance by the class's own facts -/
theorem kit_by {K : PySem.W.Frag} {C : Addr} {t : Value} {b : Bool} (h1 : PySem.W.isClsIn K C = true) (h2 : PySem.W.typeIn K (.ref C) = some (.type "type")) (h : PySem.W.subIn K t (.ref C) = some b) (hn : (t == Value.ref C) = false) : PySem.W.kitOne K t (.ref C) = some b := by
  have h1' : (PySem.W.clsIn K C).isSome = true := h1
  unfold PySem.W.kitOne PySem.W.kitCls
  simp [hn, h1', h2, h]
theorem kit_ty0 {K : PySem.W.Frag} {C : Addr} {ty : String} {b : Bool} (h1 : PySem.W.isClsIn K C = true) (h2 : PySem.W.typeIn K (.ref C) = some (.type "type")) (h : PySem.W.subIn K (.type ty) (.ref C) = some b) : PySem.W.kitOne K (.type ty) (.ref C) = some b :=
  kit_by h1 h2 h (beq_eq_false_iff_ne.mpr fun q => by cases q)
/-- an f-string's reading by a name -/
def tJn (ts : List TE) : TE := fun σ H Q => tJs ts Str.empty σ H fun out H1 => Q (.str out) H1
theorem pe_jn {X : Cx} {v1 v2 : Expr} {rest : List Expr} {ts : List TE} {pos : Pos} (h : PJ X (v1 :: v2 :: rest) ts) : PE X (.JoinedStr (v1 :: v2 :: rest) pos) (tJn ts) := pe_joined h
section
variable {X : Cx} {CX : CXT} {k : Nat} {f C : Addr} {fd : FuncData} {ps : List Str} {sp : Sp} {E : XK}
def rReprO (C : Addr) (sp : Sp) (E : XK) : List V → Hp → VK → Prop := fun xs H Q => ∃ a dx fs, xs = [.ref a] ∧ H a = some (.ins C dx fs) ∧ sp [.ref a] H (fun v H2 => ∃ z : Str, v = .str z ∧ Q (.str z) H2) E
theorem call_reprO (c : Spc X.K C "__repr__" f) (F : FnOk X.prog X.w X.K X.mg X.base CX k f fd ps sp) (hr : Room (k + 1) X.A) (hb : Binds X.K fd ps []) (hx : Passes CX X E) : CallR X (.builtin "repr") (rReprO C sp E) := by
  intro pins s σ H xs us Q I r h
  obtain ⟨a, dx, fs, rfl, ha, q⟩ := h
  rw [Vals.ref1 r]
  obtain ⟨ox, od, J, _⟩ := ins_inst I ha
  obtain ⟨m, Fr⟩ := I.fr
  refine PySem.W.repr_K (hu_of hr) Fr I.ok.mod.kin J c.at_ c.fn (wpAny_mono (run_fn1 (us := [.ref a]) (vs := [.ref a]) F hr hb hx I (.cons rfl .nil) q) (fun v s' z => ?_) fun _ _ z => z)
  obtain ⟨v0, H2, I2, rv, n, e, q2⟩ := z
  subst e
  obtain ⟨tk, rfl⟩ := rv
  exact ⟨.str n, H2, I2, ⟨tk, rfl⟩, q2⟩
end
end Cs

set_option Elab.async false
set_option linter.all false
set_option maxRecDepth 100000
set_option maxHeartbeats 4000000
/-! list(text); x in o, bool(o) by own methods; C(k1=v1, ..) where __init__ takes **d. -/
namespace Cs
open PySem PySem.Spec PyProof.Rows L2
/-- the signs of a text -/
def signsV (z : Str) : List V := z.cps.toList.map fun c => V.str ⟨#[c]⟩
theorem vals_pw : ∀ {xs : List V} {us : List Value}, xs.length = us.length → (∀ (i : Nat) x u, xs[i]? = some x → us[i]? = some u → RelV x u) → Vals xs us
  | [], [], _, _ => .nil
  | x :: xs, u :: us, hl, h => .cons (h 0 x u rfl rfl) (vals_pw (Nat.succ.inj hl) fun i a b ha hb => h (i + 1) a b ha hb)
  | [], _ :: _, hl, _ => by cases hl
  | _ :: _, [], hl, _ => by cases hl
section
variable {X : Cx} {CX : CXT} {k : Nat} {f C : Addr} {fd : FuncData} {ps : List Str} {sp : Sp} {E : XK}
theorem call_listS (hc : X.calm = true) : CallR X (.type "list") (fun xs H Q => ∃ z : Str, xs = [.str z] ∧ z.length ≤ sizeLine ∧ ∀ q, H q = none → Q (.ref q) (upd H q (.lst (signsV z)))) := by
  intro pins s σ H xs us Q I r h
  obtain ⟨z, rfl, hz, q⟩ := h
  obtain ⟨tk, rfl⟩ : ∃ tk, us = [Value.str z tk] := by
    cases r with
    | cons r rr =>
      cases rr
      obtain ⟨tk, rfl⟩ := r
      exact ⟨tk, rfl⟩
  refine call_list_str (I.ok.hd hc) z tk (hn := hz) fun h' tk' acc c' hk e' hi => ?_
  have hl : acc.toList.length = z.cps.size := by rw [Array.length_toList]; exact hi.1
  refine ⟨.ref s.heap.objs.size, upd H s.heap.objs.size (.lst (signsV z)), I.laid hk (Nat.le_refl _) (show ObjOk X.prog X.w _ _ _ (.lst (signsV z)) from ⟨?_, acc.toList, c', vals_pw ?_ fun i x u hx hu => ?_, ?_⟩), rfl, q _ (I.hok.fresh (Nat.le_refl _))⟩
  · unfold signsV
    rw [List.length_map, Array.length_toList]
    exact hz
  · unfold signsV
    rw [List.length_map, Array.length_toList]
    exact hl.symm
  · obtain ⟨c, u', hc', rfl⟩ := hi.2 i u (by rw [← Array.getElem?_toList]; exact hu)
    unfold signsV at hx
    rw [List.getElem?_map, Array.getElem?_toList, hc'] at hx
    cases hx
    exact ⟨u', rfl⟩
  · rw [Array.toArray_toList]
    exact e'
/-- x in o -/
def rInO (C : Addr) (sp : Sp) (E : XK) : R2 := fun x y H Q => ∃ p dp fp, y = .ref p ∧ H p = some (.ins C dp fp) ∧ sp [.ref p, x] H (fun v H2 => ∃ b, v = .bl b ∧ Q (.bl b) H2) E
theorem op_inO (c : Spc X.K C "__contains__" f) (F : FnOk X.prog X.w X.K X.mg X.base CX k f fd ps sp) (hr : Room k X.A) (hb : Binds X.K fd ps []) (hx : Passes CX X E) : OpR X (compareOp .In) (rInO C sp E) := by
  intro pins s σ H x y v u Q I rx ry h
  obtain ⟨p, dp, fp, rfl, hp, k⟩ := h
  cases ry
  obtain ⟨ox, od, J, _⟩ := ins_inst I hp
  obtain ⟨m, Fr⟩ := I.fr
  refine PySem.W.in_K Fr I.ok.mod.kin J c.at_ c.fn ?_
  refine wpAny_mono (run_fn (us := [.ref p, v]) (vs := [.ref p, x]) (dvs := []) F hr hb .nil hx I (.cons rfl (.cons rx .nil)) k) (fun v s' z => ?_) fun _ _ z => z
  obtain ⟨v0, H2, I2, rv, b, rfl, q2⟩ := z
  cases rv
  exact wpAny_truthy_bool ⟨.bl b, H2, I2, rfl, q2⟩
/-- bool(o) -/
def rBoolO (C : Addr) (sp : Sp) (E : XK) : List V → Hp → VK → Prop := fun xs H Q => ∃ a dx fs, xs = [.ref a] ∧ H a = some (.ins C dx fs) ∧ sp [.ref a] H (fun v H2 => ∃ b, v = .bl b ∧ Q (.bl b) H2) E
theorem meets_boolO {prog : Program} {w : World} (x : Addr) : MeetsIn prog w (Builtin.«bool.__new__» ⟨[.type "bool", .ref x], []⟩) (fun A R s => wpAny (model prog w) A.in1 (truthy (.ref x)) (fun b s' => R (.ok (.ret (.bool b))) s') (fun e s' => R (.error e) s') s) :=
  .of_wp fun A R s h => by
    have f1 := F.conv_sub_bool
    obtain ⟨hp, g, d, tk, os⟩ := s
    repeat (any_goals (first | assumption | (refine wpAny_bind (m := truthy (.ref x)) (wpAny_mono h (fun b s' z => ?_) fun _ _ z => z)) | wp_step))
    all_goals first | exact ⟨_, rfl, z⟩ | exact z | skip
theorem bool_own {prog : Program} {w : World} {A : Around} {E : Value → Shared → Prop} {s : Shared} {K : PySem.W.Frag} {h₀ : Heap} {L x C f : Addr} {m : Str → Option Value} {ox : Obj} {od : Option Obj} {Q : Value → Shared → Prop} (Fh : Fr h₀ L s.heap m) (X₀ : K.In h₀) (I : PySem.W.InstAt s.heap x ox C od)
    (hs : PySem.W.findIn K (.ref C) "__bool__" = some (some (.ref f))) (hf : PySem.W.isFn K (.ref f) = true) (h : wpAny (model prog w) A.in1.in1 (call (.ref f) [.ref x]) (PySem.W.BoolBack fun b s' => Q (.bool b) s') E s) : wpAny (model prog w) A (call (.type "bool") [.ref x]) Q E s := by
  refine callType_newIn F.called_bool F.newNe_bool (F.typeCall_bool_1 _) (F.newCall_bool_1 _) (fun obj => F.args_object_init_2 obj _) F.entry_bool_new (meets_boolO x) ?_
  refine wpAny_mono (PySem.W.truthy_K Fh X₀ I hs hf h) (fun b s' z => ?_) fun _ _ z => z
  exact ⟨rfl, z⟩
theorem run_fn2 {pins : List (Addr × Obj)} {σ : L2.St} {H : Hp} {s : Shared} {Q : VK} {us : List Value} {vs : List V} (F : FnOk X.prog X.w X.K X.mg X.base CX k f fd ps sp) (hr : Room (k + 2) X.A) (hb : Binds X.K fd ps []) (hx : Passes CX X E)
    (I : Inv X pins σ H s) (r : Vals vs us) (h : sp vs H Q E) : wpAny (model X.prog X.w) X.A.in1.in1 (call (.ref f) us) (EP X pins σ Q) X.xe s := by
  have hl : us.length = ps.length := by rw [← r.length]; exact F.len _ _ _ _ h
  have hb' := hb s us I.kIn (by rw [List.append_nil]; exact hl)
  rw [List.append_nil] at hb'
  refine wpAny_call (codeAny_mono (F.run X.A.in1.in1 X.stack s H ⟨us, []⟩ us vs Q E hr.in1.in1 I.env0.in1.in1 hb' r h) fun r s' hq => ?_)
  cases r with
  | error e => exact hx pins σ H s e s' I hq
  | ok fl =>
    cases fl with
    | ret u => exact I.after hq
    | next => exact False.elim hq
    | brk => exact False.elim hq
    | cont => exact False.elim hq
theorem call_boolO (c : Spc X.K C "__bool__" f) (F : FnOk X.prog X.w X.K X.mg X.base CX k f fd ps sp) (hr : Room (k + 2) X.A) (hb : Binds X.K fd ps []) (hx : Passes CX X E) : CallR X (.type "bool") (rBoolO C sp E) := by
  intro pins s σ H xs us Q I r h
  obtain ⟨a, dx, fs, rfl, ha, q⟩ := h
  rw [Vals.ref1 r]
  obtain ⟨ox, od, J, _⟩ := ins_inst I ha
  obtain ⟨m, Fr⟩ := I.fr
  refine bool_own Fr I.ok.mod.kin J c.at_ c.fn (wpAny_mono (run_fn2 (us := [.ref a]) (vs := [.ref a]) F hr hb hx I (.cons rfl .nil) q) (fun v s' z => ?_) fun _ _ z => z)
  obtain ⟨v0, H2, I2, rv, n, e, q2⟩ := z
  subst e
  cases rv
  exact ⟨.bl n, H2, I2, rfl, q2⟩
/-- bool(d), d a dict -/
theorem call_boolD : CallR X (.type "bool") (fun xs H Q => ∃ (a : Addr) (kvs : List (Key × V)), xs = [.ref a] ∧ H a = some (.dK kvs) ∧ Q (.bl (!kvs.isEmpty)) H) := by
  intro pins s σ H xs us Q I r h
  obtain ⟨a, kvs, rfl, ha, q⟩ := h
  rw [Vals.ref1 r]
  obtain ⟨hz, hs, vs, kv, dd⟩ := (show ObjOk X.prog X.w H s.heap a (.dK kvs) from I.hok a _ ha)
  have hl : kvs.length = vs.length := Paired.length kv
  refine callType_newIn F.called_bool F.newNe_bool (F.typeCall_bool_1 _) (F.newCall_bool_1 _) (fun obj => F.args_object_init_2 obj _) F.entry_bool_new (meets_boolO a) ?_
  have l63 := line63
  refine wpAny_truthy_dict (knd := mixKind X.prog X.w) hs dd (by omega) ?_
  refine ⟨rfl, .bl (!kvs.isEmpty), H, I.tok _, ?_, q⟩
  show Value.bool _ = Value.bool _
  congr 2
  cases kvs <;> cases vs <;> first | rfl | (simp at hl)
end
/-! ### keywords into a new dict -/
theorem push_update (h : Heap) (o : Obj) (g : Obj → Obj) : (h.push o).update h.objs.size g = h.push (g o) := by
  obtain ⟨objs, l⟩ := h
  show (⟨(objs.push o).modify objs.size g, l⟩ : Heap) = ⟨objs.push (g o), l⟩
  congr 1
  apply Array.ext
  · simp
  · intro i h1 h2
    rw [Array.getElem_modify]
    by_cases c : i = objs.size
    · subst c
      simp
    · have hi : i < objs.size := by simp at h2; omega
      rw [if_neg (fun q => c q.symm), Array.getElem_push_lt hi, Array.getElem_push_lt hi]
theorem nsSet_push {prog : Program} {w : World} {A : Around} {E : Value → Shared → Prop} {h : Heap} {g : Array GenState} {dr : Drawn} {t : Nat} {os : OsState} {es : List DictEntry} {n : Nat} {k : Str} {v : Value} {Q : Unit → Shared → Prop}
    (hs : ∀ e ∈ es, e.key.isStr k = false) (hr : ∀ e ∈ es, e.refKey = false)
    (hq : Q () ⟨h.push (PySem.W.dictOf (es ++ [⟨PyData.keyHash w.params k, .str k t, v⟩]) (n + 1)), g, dr, t + 1, os⟩) :
    wpAny (model prog w) A (nsSet h.objs.size k v) Q E ⟨h.push (PySem.W.dictOf es n), g, dr, t, os⟩ := by
  have e1 : es.any (·.key.isStr k) = false := List.any_eq_false.mpr fun e he => by rw [hs e he]; exact Bool.false_ne_true
  have e2 : es.any (·.refKey) = false := List.any_eq_false.mpr fun e he => by rw [hr e he]; exact Bool.false_ne_true
  have e : Obj.putName k (PyData.keyHash w.params k) (.str k t) v (PySem.W.dictOf es n) = PySem.W.dictOf (es ++ [⟨PyData.keyHash w.params k, .str k t, v⟩]) (n + 1) := by
    rw [PySem.W.putName_dict, PySem.W.putL_new hs]
    show PySem.W.dictOf _ (if es.any (·.key.isStr k) then n else n + 1) = _
    rw [e1, if_neg Bool.false_ne_true]
  have D : (h.push (PySem.W.dictOf es n)).get? h.objs.size = some (PySem.W.dictOf es n) := Heap.get?_push_size _ rfl
  have c : aRefKeyMayBeTheName k es.toArray = false := by
    rw [aRefKeyMayBeTheName_at, ← Array.any_toList, ← Array.any_toList]
    show (!es.any (·.key.isStr k) && es.any (·.refKey)) = false
    rw [e2, Bool.and_false]
  unfold nsSet
  refine wpAny_bind (wpAny_bind (wpAny_askSetting (wpAny_pure (wpAny_bind (wpAny_mkText (wpAny_bind (wpAny_loadPart D ?_)))))))
  dsimp only
  rw [c]
  refine wpAny_updatePart D ?_
  show Q () ⟨(h.push (PySem.W.dictOf es n)).update h.objs.size (Obj.putName k (PyData.keyHash w.params k) (.str k t) v), g, dr, t + 1, os⟩
  rw [push_update, e]
  exact hq
theorem fill_push {prog : Program} {w : World} {A : Around} {E : Value → Shared → Prop} {h : Heap} {g : Array GenState} {dr : Drawn} {os : OsState} {Q : PUnit → Shared → Prop} : ∀ (ex : List (Str × Value)) (t : Nat) (es : List DictEntry) (n : Nat),
    (∀ e ∈ es, ∀ x ∈ ex, e.key.isStr x.1 = false) → (∀ e ∈ es, e.refKey = false) → (ex.map (·.1)).Nodup →
    Q ⟨⟩ ⟨h.push (PySem.W.dictOf (es ++ PySem.W.kwEs w.params t ex) (n + ex.length)), g, dr, t + ex.length, os⟩ →
    wpAny (model prog w) A (forIn ex PUnit.unit fun x _ => (nsSet h.objs.size x.1 x.2 >>= fun _ => pure (ForInStep.yield PUnit.unit))) Q E ⟨h.push (PySem.W.dictOf es n), g, dr, t, os⟩
  | [], t, es, n, _, _, _, hq => by
    rw [List.forIn_nil]
    refine wpAny_pure ?_
    have e : es ++ PySem.W.kwEs w.params t [] = es := List.append_nil _
    rw [e] at hq
    exact hq
  | x :: r, t, es, n, hs, hr, hn, hq => by
    obtain ⟨hn1, hn2⟩ := List.nodup_cons.mp (show (x.1 :: r.map (·.1)).Nodup from hn)
    rw [List.forIn_cons]
    refine wpAny_bind (wpAny_bind (nsSet_push (fun e he => hs e he x (.head _)) hr (wpAny_pure ?_)))
    show wpAny (model prog w) A (forIn r PUnit.unit fun x _ => (nsSet h.objs.size x.1 x.2 >>= fun _ => pure (ForInStep.yield PUnit.unit))) Q E _
    refine fill_push r (t + 1) _ _ (fun e he y hy => ?_) (fun e he => ?_) hn2 ?_
    · rcases List.mem_append.mp he with he | he
      · exact hs e he y (.tail _ hy)
      · obtain rfl := List.mem_singleton.mp he
        show (x.1 == y.1) = false
        exact beq_eq_false_iff_ne.mpr fun q => hn1 (by rw [q]; exact List.mem_map_of_mem hy)
    · rcases List.mem_append.mp he with he | he
      · exact hr e he
      · obtain rfl := List.mem_singleton.mp he
        rfl
    · have t1 : t + 1 + r.length = t + (r.length + 1) := by omega
      have t2 : n + 1 + r.length = n + (r.length + 1) := by omega
      rw [t1, t2, List.append_assoc]
      exact hq
/-- the dict that the keywords make -/
def kwK (ks : List Str) (zs : List V) : List (Key × V) := (ks.zip zs).map fun q => (Sum.inr q.1, q.2)
theorem kw_pairs (P : Program) (w : World) : ∀ (ex : List (Str × Value)) (t : Tok), Pairs (mixKind P w) (PySem.W.kwEs w.params t ex) (ex.map fun x => ((Sum.inr x.1 : Key), x.2))
  | [], _ => Pairs.nil
  | x :: r, t => Pairs.cons (keyIs_str x.1 t) rfl (kw_pairs P w r (t + 1))
theorem kw_kv : ∀ {ks : List Str} {zs : List V} {ws : List Value}, Vals zs ws → KV (kwK ks zs) ((ks.zip ws).map fun x => ((Sum.inr x.1 : Key), x.2))
  | [], _, _, _ => by
    unfold kwK
    simp only [List.zip_nil_left, List.map_nil]
    exact .nil
  | _ :: _, _, _, .nil => .nil
  | k :: ks, _, _, .cons r t => .cons ⟨rfl, r⟩ (kw_kv t)
theorem kw_fst {ks : List Str} {ws : List Value} (hz : ws.length = ks.length) : (ks.zip ws).map (·.1) = ks := List.map_fst_zip (by omega)
theorem dk_kw {P : Program} {w : World} {H : Hp} {ks : List Str} {zs : List V} {ws : List Value} (h : Heap) (hb : sysModules < h.objs.size) (t : Nat) (hn : ks.Nodup) (r : Vals zs ws) (hz : zs.length = ks.length) (hl : ks.length ≤ 1000) :
    ObjOk P w H (h.push (PySem.W.dictOf (PySem.W.kwEs w.params t (ks.zip ws)) (ks.zip ws).length)) h.objs.size (.dK (kwK ks zs)) := by
  have hw : ws.length = ks.length := by rw [← r.length]; exact hz
  refine ⟨?_, beq_eq_false_iff_ne.mpr (Ne.symm (Nat.ne_of_lt hb)), _, kw_kv r, _, _, _, Heap.get?_push_size _ rfl, ⟨rfl, rfl, rfl⟩, rfl, fun e he => ?_, kw_pairs P w _ t, ?_⟩
  · unfold kwK
    rw [List.length_map, List.length_zip]
    exact Nat.le_trans (show min ks.length zs.length ≤ 1000 by omega) (by decide)
  · obtain ⟨k, u, e1, e2⟩ := PySem.W.kwEs_key _ _ e (by simpa using he)
    exact ⟨Sum.inr k, by rw [e1]; exact keyIs_str k u, e2⟩
  · rw [List.map_map]
    show ((ks.zip ws).map ((fun x : Str => (Sum.inr x : Key)) ∘ fun x => x.1)).Nodup
    rw [← List.map_map, kw_fst hw]
    exact List.Pairwise.map _ (fun a b n q => n (Sum.inr.inj q)) hn
/-- a def called with one value and keywords -/
def FnKw (P : Program) (w : World) (K : PySem.W.Frag) (mg : Str → Option Value) (base : Heap) (CX : CXT) (k : Nat) (f : Addr) (ks : List Str) (sp : Sp) : Prop :=
  ∀ (A : Around) (outer : List Env) (s : Shared) (H : Hp) (u : Value) (v : V) (ws : List Value) (zs : List V) (Q : VK) (E : XK), Room k A → Env0 P w K mg base A outer s H → RelV v u → Vals zs ws → zs.length = ks.length → sp (v :: zs) H Q E →
    codeAny (model P w) A (.call (.ref f) ⟨[u], ks.zip ws⟩) (CR CX outer P w H s Q E) s
section
variable {CX : CXT} {P : Program} {w : World} {K : PySem.W.Frag} {mg : Str → Option Value} {base : Heap} {k : Nat} {f : Addr} {name qual : Str} {params : Arguments} {body : List Stmt} {scope : Scope} {dV kV doc pm cdv ct oc : Value} {an od : Option Addr}
  {osl : Array (Option Value)} {N ks : List Str} {sp : Sp} {p1 pv pd : Str}
/-- def f(a, *v, **d), called with a and keywords -/
theorem fn_kw (lk : K.lookup f = some ⟨oc, od, .func (PySem.W.fnOf name qual params body scope dV kV doc pm an cdv ct), osl⟩) (hcd : PySem.W.codeIn K cdv qual = true) (S : FnScope N [p1, pv, pd] scope) (hCX : StX.CXUp CX) (hn : ks.Nodup) (hl : ks.length ≤ 1000)
    (hb : ∀ (u : Value) (ws : List Value), ws.length = ks.length → bindArgs (PySem.W.fnOf name qual params body scope dV kV doc pm an cdv ct) ⟨[u], ks.zip ws⟩ =
      (newTuple [] >>= fun t => (alloc ({ cls := .type "dict", data := .dict #[] } : Obj) : Sem Addr) >>= fun d => (forIn (ks.zip ws) PUnit.unit fun x _ => (nsSet d x.1 x.2 >>= fun _ => pure (ForInStep.yield PUnit.unit))) >>= fun _ => pure [(p1, u), (pv, t), (pd, Value.ref d)]))
    (hbody : ∀ (A : Around) (outer : List Env) (s : Shared) (H : Hp) (vs : List V) (Q : VK) (E : XK), Room k (A.deeper (envOfC qual scope s.heap.objs.size f cdv)) → sp vs H Q E →
      ∃ t, PSs (cxOf CX P w K mg base N qual scope f cdv A outer s H E) body t ∧ t { nx := fun _ H' => Q .non H', rt := Q } (start N vs) H) :
    FnKw P w K mg base CX (k + 1) f ks (fun vs H Q E => ∃ v zs, vs = v :: zs ∧ ∀ p d, H p = Option.none → H d = Option.none → d ≠ p → sp [v, V.ref p, V.ref d] (upd (upd H p (.tup [])) d (.dK (kwK ks zs))) Q E) := by
  intro A outer s H u v ws zs Q E hr e0 rv r hz hsp
  obtain ⟨v', zs', ev, hq⟩ := hsp
  obtain ⟨rfl, rfl⟩ := List.cons.inj ev
  obtain ⟨hp, g, dr, tk, os⟩ := s
  have hn0 : H hp.objs.size = Option.none := e0.hok.fresh (Nat.le_refl _)
  have hw : ws.length = ks.length := by rw [← r.length]; exact hz
  refine StX.run_bnd (ps := [p1, pv, pd]) lk hcd S hr e0 (G := fun xs H2 => ∃ p d, H p = Option.none ∧ H d = Option.none ∧ d ≠ p ∧ xs = [v, V.ref p, V.ref d] ∧ H2 = upd (upd H p (.tup [])) d (.dK (kwK ks zs))) (fun A' Ex Q' h => ?_) fun s2 H2 xs ⟨p, d, hp', hd, hne, ex, eH⟩ hr' => ?_
  · rw [hb u ws hw]
    refine wpAny_bind (wpAny_newTuple (wpAny_bind (wpAny_alloc (wpAny_bind ?_))) (by show 0 ≤ sizeLine; decide))
    have new : ObjOk P w (upd H hp.objs.size (.tup [])) (hp.push ({ cls := .type "tuple", data := .seq (([] : List Value)).toArray } : Obj)) hp.objs.size (.tup []) := ⟨by show 0 ≤ sizeLine; decide, [], .nil, ⟨_, Heap.get?_push_size _ rfl, rfl, _, rfl⟩⟩
    have e1 := StX.env0_laid e0 new
    have un1 := StX.un_laid (fs := frs outer) (s := ⟨hp, g, dr, tk, os⟩) (o := ({ cls := .type "tuple", data := .seq (([] : List Value)).toArray } : Obj)) (u := .tup []) hn0
    have hn2 := e1.hok.fresh (Nat.le_refl _)
    have sz : (hp.push ({ cls := .type "tuple", data := .seq (([] : List Value)).toArray } : Obj)).objs.size = hp.objs.size + 1 := Heap.size_push _ _
    have ne : (hp.push ({ cls := .type "tuple", data := .seq (([] : List Value)).toArray } : Obj)).objs.size ≠ hp.objs.size := by
      rw [sz]
      exact Nat.succ_ne_self _
    have hd : H (hp.push ({ cls := .type "tuple", data := .seq (([] : List Value)).toArray } : Obj)).objs.size = Option.none := e0.hok.fresh (by show _ ≤ _; rw [sz]; exact Nat.le_succ _)
    have kp1 : ∀ b o, hp.get? b = some o → (hp.push ({ cls := .type "tuple", data := .seq (([] : List Value)).toArray } : Obj)).get? b = some o := fun b o q => Heap.get?_push_of_some _ q
    generalize hp.push ({ cls := .type "tuple", data := .seq (([] : List Value)).toArray } : Obj) = hp1 at e1 un1 hn2 ne hd kp1
    refine fill_push (ks.zip ws) tk [] 0 (fun _ he => nomatch he) (fun _ he => nomatch he) (by rw [kw_fst hw]; exact hn) (wpAny_pure ?_)
    rw [List.nil_append, Nat.zero_add]
    have e2 := StX.env0_laid (u := .dK (kwK ks zs)) (o := PySem.W.dictOf (PySem.W.kwEs w.params tk (ks.zip ws)) (ks.zip ws).length) e1 (dk_kw hp1 (StX.env0_big e1) tk hn r hz hl)
    have un2 := un1.trans (StX.un_laid (fs := frs outer) (s := (⟨hp1, g, dr, tk, os⟩ : Shared)) (o := PySem.W.dictOf (PySem.W.kwEs w.params tk (ks.zip ws)) (ks.zip ws).length) (u := .dK (kwK ks zs)) hn2)
    have z := h ⟨hp1.push (PySem.W.dictOf (PySem.W.kwEs w.params tk (ks.zip ws)) (ks.zip ws).length), g, dr, tk + (ks.zip ws).length, os⟩ _ [v, V.ref hp.objs.size, V.ref hp1.objs.size] [u, Value.ref hp.objs.size, Value.ref hp1.objs.size]
      ⟨e2.frames, e2.mod, e2.bs, e2.bsz, e2.funs, e2.frf, e2.hok, e2.bare⟩ un2 rfl (fun e s' => hCX outer _ H _ _ E e s' un2 ?_ rfl) (.cons rv (.cons rfl (.cons rfl .nil))) rfl ⟨_, _, hn0, hd, ne, rfl, rfl⟩
    · exact z
    · exact fun b o q => Heap.get?_push_of_some _ (kp1 b o q)
  · subst ex eH
    exact hbody A outer s2 _ _ Q E hr' (hq p d hp' hd hne)
end
/-- C(k1=v1, ..) -/
def tMkKw (C : Addr) (sp : Sp) (E : XK) (n : Nat) (tk : TA) : TE := fun σ H Q => tk σ H fun zs H1 => zs.length = n ∧ ∀ x dx, H1 x = none → H1 dx = none → dx ≠ x → sp (.ref x :: zs) (upd (upd H1 dx (.own x)) x (.ins C dx [])) (fun v H2 => v = .non ∧ Q (.ref x) H2) E
section
variable {X : Cx} {CX : CXT} {k : Nat} {f C : Addr} {sp : Sp} {E : XK} {x : Str} {p pos : Pos} {kws : List Keyword} {ks : List Str} {tk : TA}
theorem run_makeKw {pins : List (Addr × Obj)} {σ : L2.St} {H : Hp} {s : Shared} {Q : VK} {ws : List Value} {zs : List V} (M : Mk X.K C f) (F : FnKw X.prog X.w X.K X.mg X.base CX k f ks sp) (hr : Room (k + 1) X.A) (hx : Passes CX X E) (I : Inv X pins σ H s) (r : Vals zs ws) (hz : zs.length = ks.length)
    (h : ∀ x dx, H x = none → H dx = none → dx ≠ x → sp (V.ref x :: zs) (upd (upd H dx (.own x)) x (.ins C dx [])) (fun v H2 => v = .non ∧ Q (.ref x) H2) E) :
    wpAny (model X.prog X.w) X.A (call (.ref C) [] (ks.zip ws)) (EP X pins σ Q) X.xe s := by
  have hq := h (s.heap.objs.size + 1) s.heap.objs.size (I.hok.fresh (Nat.le_succ _)) (I.hok.fresh (Nat.le_refl _)) (Nat.ne_of_lt (Nat.lt_succ_self _))
  have I2 := Inv.made (C := C) I
  refine wpAny_call (make_map (f := f) I.kIn M.makes M.init (beq_iff_eq.mp M.fn) (codeAny_mono (F _ X.stack _ _ (Value.ref (s.heap.objs.size + 1)) (V.ref (s.heap.objs.size + 1)) ws zs _ E (hr.make C [] (ks.zip ws)) (I2.env0.make C [] (ks.zip ws)) rfl r hz hq) fun r s' hq' => ?_))
  cases r with
  | error e => exact hx pins σ _ _ e s' I2 hq'
  | ok fl =>
    cases fl with
    | ret u =>
      obtain ⟨v, H', I3, rv, ev, q3⟩ := I2.after hq'
      subst ev
      exact ⟨rv, ⟨V.ref (s.heap.objs.size + 1), H', I3, rfl, q3⟩⟩
    | next => exact False.elim hq'
    | brk => exact False.elim hq'
    | cont => exact False.elim hq'
theorem pe_mkKw (M : Mk X.K C f) (F : FnKw X.prog X.w X.K X.mg X.base CX k f ks sp) (hr : Room (k + 1) X.A) (hg : Gl X x) (hm : X.mg x = some (.ref C)) (hx : Passes CX X E) (hkw : PK X kws tk) (hdb : (x == ("__debug__" : Str)) = false := by decide)
    (hall : (backToKw pos (keywordEach kws X.env)).all (·.1.isSome) = true := by rfl) (hks : (backToKw pos (keywordEach kws X.env)).filterMap (·.1) = ks := by rfl)
    (hpl : ((backTo pos (starEach [] X.env)).any (·.1) || (backToKw pos (keywordEach kws X.env)).any (·.1.isNone)) = false := by rfl) :
    PE X (.Call (.Name x p) [] kws pos) (tMkKw C sp E ks.length tk) := by
  refine ⟨fun pins s σ H Q I h => ?_⟩
  refine wpAny_Call_Name_kw (ld_glob I hg hm ?_ hdb)
  refine PySem.W.callWith_KW0 (h₀ := X.base) I.ok.mod.kin M.kp hall (thn (hkw.run pos pins s σ H _ I h) fun ws s2 ⟨zs, H2, I2, rz, l2, q2⟩ => ⟨I2.kIn, ?_⟩) hpl
  rw [hks]
  exact run_makeKw M F hr hx I2 rz l2 q2
end
end Cs

set_option Elab.async false
set_option linter.all false
set_option maxRecDepth 100000
set_option maxHeartbeats 8000000
set_option pp.maxSteps 700
/-! Doors written. -/
namespace Dr
open PySem L2 Cs
section
variable {X : Cx} {CX : CXT} {k : Nat} {f C : Addr} {fd : FuncData} {sp : Sp} {E : XK}
/-- str(o) by an own __str__ -/
def rStrO (C : Addr) (sp : Sp) (E : XK) : List V → Hp → VK → Prop := fun xs H Q => ∃ p dp fp, xs = [.ref p] ∧ H p = some (.ins C dp fp) ∧ sp [.ref p] H (fun v H2 => ∃ z : Str, v = .str z ∧ Q (.str z) H2) E
theorem call_strO (c : Spc X.K C "__str__" f) (F : FnOk X.prog X.w X.K X.mg X.base CX k f fd ["self"] sp) (hr : Room (k + 2) X.A) (hb : Binds X.K fd ["self"] []) (hx : Passes CX X E) : CallR X (.type "str") (rStrO C sp E) := by
  intro pins s σ H xs us Q I r h
  obtain ⟨p, dp, fp, rfl, hp, q⟩ := h
  rw [Vals.ref1 r]
  obtain ⟨ox, od, J, _⟩ := ins_inst I hp
  have hu : X.A.in1.in1.units < cLine := hu_of (k := k + 1) hr.in1
  refine PySem.W.kso_call hu I.kIn J c.at_ c.fn (wpAny_mono (run_fn2 (us := [.ref p]) (vs := [.ref p]) F hr hb hx I (.cons rfl .nil) q) (fun v s' z => ?_) fun _ _ z => z)
  obtain ⟨v0, H2, I2, rv, n, e, q2⟩ := z
  subst e
  obtain ⟨tk, rfl⟩ := rv
  exact ⟨.str n, H2, I2, ⟨tk, rfl⟩, q2⟩
end
def doorS (nm : Str) (zs : List Str) : Str := Txt.join "\n" ((Str.empty ++ "door " ++ nm) :: zs)
section
variable {P : Program} {w : World} {K : PySem.W.Frag} {mg : Str → Option Value} {base : Heap}
def spStrD (C : Addr) : Sp := fun vs H Q _ => ∃ (p : Addr) (nm : Str) (zs : List Str) (ts : List StepD), vs = [.ref p] ∧ DoorAt C H p nm zs ts ∧ nm.length ≤ 100 ∧ zs.length ≤ 100 ∧ (zs.map (·.length)).sum ≤ 1000000 ∧ ∀ H', Same H H' → Q (.str (doorS nm zs)) H'
theorem ok_door_str {C f : Addr} {fd : FuncData} (F : Fun K "__str__" "Door.__str__" s_Door_str f fd) (g : Bi mg) (DC : DoC K C) : FnOk P w K mg base CX0 1 f fd ["self"] (spStrD C) := by
  refine F.ok sc_Door_str (fun vs H Q E h => ?_) (fun cdv A outer s H vs Q E hr h => ?_)
  · obtain ⟨_, _, _, _, rfl, _⟩ := h
    rfl
  · obtain ⟨p, nm, zs, ts, rfl, ⟨dx, L, S, ss, hp, hL, hS, hss⟩, hn, hz, hs, k⟩ := h
    have e1 : (("door " : String) : Str).length = 5 := rfl
    have ez : Str.empty.length = 0 := rfl
    have e3 : (("\n" : String) : Str).length = 1 := rfl
    have big : 8000 ≤ sizeLine := by decide
    refine ⟨_, (pss_one (ps_ret (pe_join pe_str (pe_lst (pa_cons (pe_jn (PJ.cons pe_str (PJ.cons (pe_fmt (pe_fld (pv 0) rfl)) PJ.nil))) (StX.pa_star (pe_fld (pv 0) rfl) pa_nil)))))), ?_⟩
    refine ⟨⟨_, rfl⟩, ?_⟩
    refine ⟨_, rfl, by rw [strLen_append, e1, ez]; omega, ?_⟩
    refine ⟨_, rfl, p, _, dx, _, _, rfl, hp, DC.cl, DC.nn, rfl, .inl ⟨nm, rfl, by omega, nm, rfl, by rw [strLen_append, strLen_append, e1, ez]; omega, ?_⟩⟩
    refine ⟨_, rfl, p, _, dx, _, _, rfl, hp, DC.cl, DC.nl, rfl, L, _, rfl, .inl (SqT.of hL), ?_⟩
    refine ⟨?_, fun q hq => ⟨"\n", q, (Str.empty ++ "door " ++ nm) :: zs, rfl, rfl, .inl (SqL.of ?_), ?_, k _ (Same.new hq)⟩⟩
    · rw [List.append_nil, List.length_cons, List.length_map]
      omega
    · rw [upd_same, List.append_nil]
      rfl
    · rw [List.map_cons, List.sum_cons, strLen_append, strLen_append, e1, ez, e3, List.length_cons]
      omega
end
end Dr

set_option Elab.async false
set_option linter.all false
set_option maxRecDepth 100000
set_option maxHeartbeats 8000000
/-! Doors: what is written so is read so, plain. -/
namespace Dr
open PySem L2 Cs
def sepB (b : Str) : List Str → List Str
  | [] => []
  | [x] => [x]
  | x :: y :: r => x :: b :: sepB b (y :: r)
theorem sepB_evs (b : Str) : ∀ ks : List Str, evs (sepB b ks) = ks
  | [] => rfl
  | [x] => rfl
  | x :: y :: r => by
    have ih := sepB_evs b (y :: r)
    show x :: evs (sepB b (y :: r)) = _
    rw [ih]
theorem sepB_ods (b : Str) : ∀ ks : List Str, ∀ z ∈ ods (sepB b ks), z = b
  | [] => fun z h => by cases h
  | [x] => fun z h => by cases h
  | x :: y :: r => fun z h => by
    have ih := sepB_ods b (y :: r)
    have h : z ∈ b :: ods (sepB b (y :: r)) := h
    rcases List.mem_cons.mp h with e | e
    · exact e
    · exact ih z e
theorem sepB_len (b : Str) : ∀ ks : List Str, ks ≠ [] → (sepB b ks).length + 1 = 2 * ks.length
  | [], h => absurd rfl h
  | [x], _ => rfl
  | x :: y :: r, _ => by
    have ih := sepB_len b (y :: r) (by simp)
    show (sepB b (y :: r)).length + 1 + 1 + 1 = 2 * ((y :: r).length + 1)
    omega
theorem sepB_mem (b : Str) : ∀ (ks : List Str) (z : Str), z ∈ sepB b ks → z = b ∨ z ∈ ks
  | [], z, h => by cases h
  | [x], z, h => .inr h
  | x :: y :: r, z, h => by
    have h : z ∈ x :: b :: sepB b (y :: r) := h
    rcases List.mem_cons.mp h with e | h
    · exact .inr (by rw [e]; exact List.mem_cons_self)
    · rcases List.mem_cons.mp h with e | h
      · exact .inl e
      · exact (sepB_mem b (y :: r) z h).imp_right fun q => List.mem_cons_of_mem _ q
theorem sepB_cons (b x : Str) (r : List Str) : ∃ t, sepB b (x :: r) = x :: t := by
  cases r with
  | nil => exact ⟨[], rfl⟩
  | cons y r => exact ⟨_, rfl⟩
structure GoodKs (ks : List Str) : Prop where
  ne : ks ≠ []
  nd : ks.Nodup
  kd : ∀ z ∈ ks, kindB z = true
  few : ks.length ≤ 5
theorem readKinds_sep {b : Str} {ks : List Str} (h : GoodKs ks) : readKinds b (sepB b ks) = some ks := by
  unfold readKinds
  rw [sepB_evs]
  have l := sepB_len b ks h.ne
  have e1 : decide ((sepB b ks).length % 2 = 1) = true := decide_eq_true (by omega)
  have e2 : ((ods (sepB b ks)).all fun z => decide (z = b)) = true := List.all_eq_true.mpr fun z m => decide_eq_true (sepB_ods b ks z m)
  have e3 : ks.all kindB = true := List.all_eq_true.mpr h.kd
  rw [e1, e2, e3, decide_eq_true h.nd]
  rfl
def ntS (n : Int) : Str := Str.ofString (toString n)
def tokT : TestD → List Str
  | .row ks => "row" :: sepB "or" ks
  | .sum o ks sg n => (if o = true then [(("other" : String) : Str)] else []) ++ (sepB "+" ks ++ [sg, ntS n])
def GoodT : TestD → Prop
  | .row ks => GoodKs ks
  | .sum _ ks sg n => GoodKs ks ∧ sg ∈ SIGNS ∧ 0 ≤ n ∧ n ≤ 9
theorem dig_nt {n : Int} (h0 : 0 ≤ n) (h9 : n ≤ 9) : digB (ntS n) = true ∧ digV (ntS n) = n := by
  obtain ⟨d, rfl⟩ := Int.eq_ofNat_of_zero_le h0
  exact (show ∀ d : Nat, d < 10 → digB (ntS (d : Int)) = true ∧ digV (ntS (d : Int)) = (d : Int) by decide +kernel) d (by omega)
/-- kinds are no words of the lines -/
theorem kind_res {z : Str} (h : kindB z = true) : z ∉ RES := by
  unfold kindB at h
  rw [Bool.and_eq_true] at h
  intro m
  rw [decide_eq_true m] at h
  cases h.2
theorem kind_ne {z w : Str} (h : kindB z = true) (m : w ∈ RES) : z ≠ w := fun e => kind_res h (e ▸ m)
theorem readSum_ok {o : Bool} {ks : List Str} {sg : Str} {n : Int} (h : GoodT (.sum o ks sg n)) : readSum o (sepB "+" ks ++ [sg, ntS n]) = some (.sum o ks sg n) := by
  obtain ⟨hk, hs, h0, h9⟩ := h
  obtain ⟨l1, l2, l3⟩ := last2 (sepB "+" ks) sg (ntS n)
  obtain ⟨d1, d2⟩ := dig_nt h0 h9
  have l := sepB_len "+" ks hk.ne
  have k1 : 1 ≤ ks.length := by cases ks with
    | nil => exact absurd rfl hk.ne
    | cons _ _ => rw [List.length_cons]; omega
  unfold readSum
  rw [if_neg (by rw [List.length_append]; simp; omega), l1, l2, l3, if_pos ⟨hs, d1⟩, readKinds_sep hk, d2]
  rfl
theorem take1 {x y : Str} {r : List Str} : ((x :: r).take 1 = [y]) = (x = y) := by
  rw [List.take_succ_cons, List.take_zero]
  simp
theorem readTest_other (zs : List Str) : readTest ((("other" : String) : Str) :: zs) = readSum true zs := by
  unfold readTest
  rw [if_neg (by rw [take1]; decide +kernel), if_pos (by rw [take1])]
  rfl
theorem readTest_else {x : Str} {r : List Str} (h1 : x ≠ (("row" : String) : Str)) (h2 : x ≠ (("other" : String) : Str)) : readTest (x :: r) = readSum false (x :: r) := by
  unfold readTest
  rw [if_neg (by rw [take1]; exact h1), if_neg (by rw [take1]; exact h2)]
theorem readTest_ok {t : TestD} (h : GoodT t) : readTest (tokT t) = some t := by
  cases t with
  | row ks =>
    unfold readTest
    rw [if_pos (show List.take 1 (tokT (.row ks)) = [(("row" : String) : Str)] from rfl)]
    show (readKinds "or" (sepB "or" ks)).map TestD.row = _
    rw [readKinds_sep h]
    rfl
  | sum o ks sg n =>
    have hs := readSum_ok h
    obtain ⟨hk, _⟩ := h
    cases o with
    | true => exact (readTest_other _).trans hs
    | false =>
      cases ks with
      | nil => exact absurd rfl hk.ne
      | cons x r =>
        obtain ⟨u, e⟩ := sepB_cons "+" x r
        have hx := hk.kd x List.mem_cons_self
        have q := readTest_else (x := x) (r := u ++ [sg, ntS n]) (kind_ne hx (by decide +kernel)) (kind_ne hx (by decide +kernel))
        rw [← List.cons_append, ← e, hs] at q
        exact q
/-! lists of groups -/
def sepL (b : Str) : List (List Str) → List Str
  | [] => []
  | [x] => x
  | x :: y :: r => x ++ b :: sepL b (y :: r)
theorem splitAt_sepL {b : Str} : ∀ {gs : List (List Str)}, gs ≠ [] → (∀ g ∈ gs, b ∉ g) → splitAt b (sepL b gs) = gs
  | [], h, _ => absurd rfl h
  | [x], _, h => splitAt_free (h x List.mem_cons_self)
  | x :: y :: r, _, h => by
    show splitAt b (x ++ b :: sepL b (y :: r)) = _
    rw [splitAt_cons (h x List.mem_cons_self), splitAt_sepL (by simp) fun g m => h g (List.mem_cons_of_mem _ m)]
theorem sepL_mem {b : Str} : ∀ {gs : List (List Str)} {z : Str}, z ∈ sepL b gs → z = b ∨ ∃ g ∈ gs, z ∈ g
  | [], z, h => by cases h
  | [x], z, h => .inr ⟨x, List.mem_cons_self, h⟩
  | x :: y :: r, z, h => by
    have h : z ∈ x ++ b :: sepL b (y :: r) := h
    rcases List.mem_append.mp h with e | e
    · exact .inr ⟨x, List.mem_cons_self, e⟩
    · rcases List.mem_cons.mp e with e | e
      · exact .inl e
      · rcases sepL_mem e with q | ⟨g, m, q⟩
        · exact .inl q
        · exact .inr ⟨g, List.mem_cons_of_mem _ m, q⟩
theorem readTests_ok {ts : List TestD} (hn : ts ≠ []) (hl : ts.length ≤ 4) (hg : ∀ t ∈ ts, GoodT t) (hf : ∀ t ∈ ts, (("and" : String) : Str) ∉ tokT t) : readTests (sepL "and" (ts.map tokT)) = some ts := by
  have e : splitAt "and" (sepL "and" (ts.map tokT)) = ts.map tokT := splitAt_sepL (fun q => hn (List.map_eq_nil_iff.mp q)) fun g m => by
    obtain ⟨t, mt, rfl⟩ := List.mem_map.mp m
    exact hf t mt
  have e2 : (ts.map tokT).map readTest = ts.map some := by
    rw [List.map_map]
    exact List.map_congr_left fun t m => readTest_ok (hg t m)
  unfold readTests
  dsimp only
  rw [e, e2, if_pos ⟨by rw [List.length_map]; exact hl, by rw [List.all_map, List.all_eq_true]; intro _ _; rfl⟩]
  congr 1
  rw [List.filterMap_map]
  exact List.filterMap_some
/-! parts -/
def tokP : PartD → List Str
  | .join => ["join"]
  | .new k => ["new", k]
  | .kinds w ks af => w :: (sepB "or" ks ++ [(("->" : String) : Str), af])
  | .kind w k af => w :: ([k] ++ [(("->" : String) : Str), af])
def Aft (af : Str) : Prop := kindB af = true ∨ af = (("gone" : String) : Str)
def GoodP : PartD → Prop
  | .join => True
  | .new k => kindB k = true
  | .kinds w ks af => GoodKs ks ∧ ((w = (("row" : String) : Str) ∧ Aft af) ∨ (w = (("give" : String) : Str) ∧ kindB af = true))
  | .kind w k af => kindB k = true ∧ (((w = (("one" : String) : Str) ∨ w = (("all" : String) : Str)) ∧ Aft af) ∨ (w = (("take" : String) : Str) ∧ kindB af = true))
theorem readPart_arrow {w ar af : Str} {m : List Str} (hm : m ≠ []) : readPart (w :: (m ++ [ar, af])) = readArrow w m ar af := by
  obtain ⟨l1, l2, l3⟩ := last2 m ar af
  have hl : 1 ≤ m.length := by cases m with
    | nil => exact absurd rfl hm
    | cons _ _ => rw [List.length_cons]; omega
  have e : (w :: (m ++ [ar, af])).length = m.length + 3 := by simp
  unfold readPart
  rw [if_neg (fun q => by have := congrArg List.length q; rw [e] at this; simp at this), if_neg (by omega), if_neg (by omega)]
  show readArrow w (m ++ [ar, af]).dropLast.dropLast ((m ++ [ar, af]).dropLast.getLastD Str.empty) ((m ++ [ar, af]).getLastD Str.empty) = _
  rw [l1, l2, l3]
theorem kind_gone {af : Str} (h : kindB af = true) : af ≠ (("gone" : String) : Str) := kind_ne h (by decide +kernel)
theorem readPart_new {k : Str} (h : kindB k = true) : readPart [(("new" : String) : Str), k] = some (.new k) := by
  unfold readPart
  rw [if_neg (fun q => by have := congrArg List.length q; simp at this), if_pos (show [((("new" : String) : Str)), k].length = 2 from rfl)]
  exact if_pos ⟨rfl, h⟩
theorem readPart_ok {p : PartD} (h : GoodP p) : readPart (tokP p) = some p := by
  cases p with
  | join => rfl
  | new k => exact readPart_new h
  | kinds w ks af =>
    obtain ⟨hk, hw⟩ := h
    have hm : sepB "or" ks ≠ [] := fun q => by
      have l := sepB_len "or" ks hk.ne
      rw [q] at l
      simp at l
      omega
    show readPart (w :: (sepB "or" ks ++ [(("->" : String) : Str), af])) = _
    rw [readPart_arrow hm]
    unfold readArrow
    rw [readKinds_sep hk]
    dsimp only
    rcases hw with ⟨rfl, ha⟩ | ⟨rfl, ha⟩
    · rw [if_pos ⟨rfl, ha⟩, if_pos (.inl rfl)]
    · rw [if_pos ⟨rfl, .inl ha⟩, if_pos (.inr ⟨rfl, kind_gone ha⟩)]
  | kind w k af =>
    obtain ⟨hk, hw⟩ := h
    have hks : GoodKs [k] := ⟨by simp, by simp, fun z m => by rw [List.mem_singleton.mp m]; exact hk, by simp⟩
    show readPart (w :: ([k] ++ [(("->" : String) : Str), af])) = _
    rw [readPart_arrow (by simp)]
    unfold readArrow
    rw [show readKinds "or" [k] = some [k] from readKinds_sep (b := "or") hks]
    dsimp only
    rcases hw with ⟨rfl | rfl, ha⟩ | ⟨rfl, ha⟩
    · rw [if_pos ⟨rfl, ha⟩, if_neg (by rintro (q | ⟨q, _⟩) <;> revert q <;> decide +kernel), if_pos (.inl rfl)]
    · rw [if_pos ⟨rfl, ha⟩, if_neg (by rintro (q | ⟨q, _⟩) <;> revert q <;> decide +kernel), if_pos (.inr (.inl rfl))]
    · rw [if_pos ⟨rfl, .inl ha⟩, if_neg (by rintro (q | ⟨q, _⟩) <;> revert q <;> decide +kernel), if_pos (.inr (.inr ⟨rfl, kind_gone ha⟩))]
/-! lines -/
def ifT : List TestD → List Str
  | [] => []
  | t :: r => "if" :: sepL "and" ((t :: r).map tokT)
def tokL : StepD → List Str
  | .hold => ["hold"]
  | .look ts => "look" :: sepL "and" (ts.map tokT)
  | .deed ps ts => "do" :: (sepL "then" (ps.map tokP) ++ ifT ts)
/-- words that part the lines -/
def PART : List Str := ["and", "if", "then"]
theorem dig_part {n : Int} (h0 : 0 ≤ n) (h9 : n ≤ 9) : ntS n ∉ PART ∧ ntS n ∉ RES := by
  obtain ⟨d, rfl⟩ := Int.eq_ofNat_of_zero_le h0
  exact (show ∀ d : Nat, d < 10 → ntS (d : Int) ∉ PART ∧ ntS (d : Int) ∉ RES by decide +kernel) d (by omega)
theorem part_res : ∀ z ∈ PART, z ∈ RES := by decide +kernel
theorem tokT_free {t : TestD} (h : GoodT t) : ∀ z ∈ tokT t, z ∉ PART := by
  intro z hz
  have kd : ∀ {ks : List Str}, GoodKs ks → ∀ z ∈ ks, z ∉ PART := fun hk z m q => kind_res (hk.kd z m) (part_res z q)
  cases t with
  | row ks =>
    have hz : z ∈ (("row" : String) : Str) :: sepB "or" ks := hz
    rcases List.mem_cons.mp hz with e | e
    · rw [e]; decide +kernel
    · rcases sepB_mem _ _ _ e with e | e
      · rw [e]; decide +kernel
      · exact kd h z e
  | sum o ks sg n =>
    obtain ⟨hk, hs, h0, h9⟩ := h
    have hz : z ∈ (if o = true then [(("other" : String) : Str)] else []) ++ (sepB "+" ks ++ [sg, ntS n]) := hz
    rcases List.mem_append.mp hz with e | e
    · split at e
      · rw [List.mem_singleton.mp e]; decide +kernel
      · cases e
    · rcases List.mem_append.mp e with e | e
      · rcases sepB_mem _ _ _ e with e | e
        · rw [e]; decide +kernel
        · exact kd hk z e
      · rcases List.mem_cons.mp e with e | e
        · rw [e]
          exact (show ∀ s ∈ SIGNS, s ∉ PART by decide +kernel) sg hs
        · rw [List.mem_singleton.mp e]
          exact (dig_part h0 h9).1
theorem aft_part {af : Str} (h : Aft af) : af ∉ PART := by
  rcases h with h | rfl
  · exact fun q => kind_res h (part_res _ q)
  · decide +kernel
theorem tokP_free {p : PartD} (h : GoodP p) : ∀ z ∈ tokP p, z ∉ PART := by
  intro z hz
  have ar : (("->" : String) : Str) ∉ PART := by decide +kernel
  cases p with
  | join =>
    rw [List.mem_singleton.mp hz]; decide +kernel
  | new k =>
    have hz : z ∈ [(("new" : String) : Str), k] := hz
    rcases List.mem_cons.mp hz with e | e
    · rw [e]; decide +kernel
    · rw [List.mem_singleton.mp e]; exact fun q => kind_res h (part_res _ q)
  | kinds w ks af =>
    obtain ⟨hk, hw⟩ := h
    have hz : z ∈ w :: (sepB "or" ks ++ [(("->" : String) : Str), af]) := hz
    rcases List.mem_cons.mp hz with e | e
    · rw [e]
      rcases hw with ⟨rfl, _⟩ | ⟨rfl, _⟩ <;> decide +kernel
    · rcases List.mem_append.mp e with e | e
      · rcases sepB_mem _ _ _ e with e | e
        · rw [e]; decide +kernel
        · exact fun q => kind_res (hk.kd z e) (part_res z q)
      · rcases List.mem_cons.mp e with e | e
        · rw [e]; exact ar
        · rw [List.mem_singleton.mp e]
          rcases hw with ⟨_, ha⟩ | ⟨_, ha⟩
          · exact aft_part ha
          · exact aft_part (.inl ha)
  | kind w k af =>
    obtain ⟨hk, hw⟩ := h
    have hz : z ∈ w :: ([k] ++ [(("->" : String) : Str), af]) := hz
    rcases List.mem_cons.mp hz with e | e
    · rw [e]
      rcases hw with ⟨rfl | rfl, _⟩ | ⟨rfl, _⟩ <;> decide +kernel
    · rcases List.mem_cons.mp e with e | e
      · rw [e]; exact fun q => kind_res hk (part_res _ q)
      · rcases List.mem_cons.mp e with e | e
        · rw [e]; exact ar
        · rw [List.mem_singleton.mp e]
          rcases hw with ⟨_, ha⟩ | ⟨_, ha⟩
          · exact aft_part ha
          · exact aft_part (.inl ha)
structure GoodDo (ps : List PartD) (ts : List TestD) : Prop where
  ne : ps ≠ []
  few : ps.length ≤ 4
  gp : ∀ p ∈ ps, GoodP p
  tfew : ts.length ≤ 4
  gt : ∀ t ∈ ts, GoodT t
  rg : cntIn (ps.map PartD.word) RG ≤ 1
  cr : cntIn (ps.map PartD.word) CROSS ≤ 1
  ask : ¬ (cntIn (ps.map PartD.word) CROSS = 0 ∧ ts.any asks = true)
def GoodS : StepD → Prop
  | .hold => True
  | .look ts => ts ≠ [] ∧ ts.length ≤ 4 ∧ (∀ t ∈ ts, GoodT t) ∧ ts.any asks = false
  | .deed ps ts => GoodDo ps ts
theorem and_part : (("and" : String) : Str) ∈ PART := by decide +kernel
theorem if_part : (("if" : String) : Str) ∈ PART := by decide +kernel
theorem then_part : (("then" : String) : Str) ∈ PART := by decide +kernel
theorem all_some {β : Type} (f : List Str → Option β) (g : β → List Str) (xs : List β) (h : ∀ x ∈ xs, f (g x) = some x) : (xs.map g).map f = xs.map some := by
  rw [List.map_map]
  exact List.map_congr_left h
theorem somes {β : Type} (xs : List β) : (xs.map some).filterMap id = xs ∧ (xs.map some).all Option.isSome = true := by
  refine ⟨?_, by rw [List.all_map, List.all_eq_true]; intro _ _; rfl⟩
  rw [List.filterMap_map]
  exact List.filterMap_some
theorem readDo_ok {ps : List PartD} {ts : List TestD} (h : GoodDo ps ts) : readDo (sepL "then" (ps.map tokP) ++ ifT ts) = some (.deed ps ts) := by
  have hp : splitAt "then" (sepL "then" (ps.map tokP)) = ps.map tokP := splitAt_sepL (fun q => h.ne (List.map_eq_nil_iff.mp q)) fun g m => by
    obtain ⟨t, mt, rfl⟩ := List.mem_map.mp m
    exact fun q => tokP_free (h.gp t mt) _ q then_part
  have nif : (("if" : String) : Str) ∉ sepL "then" (ps.map tokP) := fun q => by
    rcases sepL_mem q with e | ⟨g, m, e⟩
    · exact absurd e (by decide +kernel)
    · obtain ⟨t, mt, rfl⟩ := List.mem_map.mp m
      exact tokP_free (h.gp t mt) _ e if_part
  have nif2 : (("if" : String) : Str) ∉ sepL "and" (ts.map tokT) := fun q => by
    rcases sepL_mem q with e | ⟨g, m, e⟩
    · exact absurd e (by decide +kernel)
    · obtain ⟨t, mt, rfl⟩ := List.mem_map.mp m
      exact tokT_free (h.gt t mt) _ e if_part
  obtain ⟨f1, f2⟩ := somes ps
  have eO : (ps.map tokP).map readPart = ps.map some := all_some _ _ _ fun p m => readPart_ok (h.gp p m)
  have eE : endDo ps ts = some (.deed ps ts) := if_pos ⟨h.rg, h.cr, h.ask⟩
  unfold readDo
  cases ts with
  | nil =>
    show readDoG (splitAt "if" (sepL "then" (ps.map tokP) ++ [])) ((splitAt "then" ((splitAt "if" (sepL "then" (ps.map tokP) ++ [])).headD [])).map readPart) = _
    rw [List.append_nil, splitAt_free nif]
    show readDoG _ ((splitAt "then" (sepL "then" (ps.map tokP))).map readPart) = _
    rw [hp, eO]
    unfold readDoG
    rw [if_pos ⟨by show 1 ≤ 2; decide, by rw [List.length_map]; exact h.few, f2⟩, f1]
    exact eE
  | cons t r =>
    show readDoG (splitAt "if" (sepL "then" (ps.map tokP) ++ (("if" : String) : Str) :: sepL "and" ((t :: r).map tokT))) ((splitAt "then" ((splitAt "if" (sepL "then" (ps.map tokP) ++ (("if" : String) : Str) :: sepL "and" ((t :: r).map tokT))).headD [])).map readPart) = _
    rw [splitAt_cons nif, splitAt_free nif2]
    show readDoG _ ((splitAt "then" (sepL "then" (ps.map tokP))).map readPart) = _
    rw [hp, eO]
    unfold readDoG
    rw [if_pos ⟨by show 2 ≤ 2; decide, by rw [List.length_map]; exact h.few, f2⟩, f1]
    show (readTests (sepL "and" ((t :: r).map tokT))).bind _ = _
    rw [readTests_ok (by simp) h.tfew h.gt fun t m q => tokT_free (h.gt t m) _ q and_part]
    exact eE
theorem readToks_ok {t : StepD} (h : GoodS t) : readToks (tokL t) = some t := by
  cases t with
  | hold => exact if_pos rfl
  | look ts =>
    obtain ⟨hn, hl, hg, ha⟩ := h
    have n1 : tokL (.look ts) ≠ [(("hold" : String) : Str)] := fun q => absurd (List.cons.inj q).1 (by decide +kernel)
    unfold readToks
    rw [if_neg n1]
    refine (if_pos (show (tokL (.look ts)).headD Str.empty = (("look" : String) : Str) from rfl)).trans ?_
    show (readTests (sepL "and" (ts.map tokT))).bind _ = _
    rw [readTests_ok hn hl hg fun t m q => tokT_free (hg t m) _ q and_part]
    exact if_neg (by rw [ha]; decide)
  | deed ps ts =>
    have n1 : tokL (.deed ps ts) ≠ [(("hold" : String) : Str)] := fun q => absurd (List.cons.inj q).1 (by decide +kernel)
    unfold readToks
    rw [if_neg n1]
    refine (if_neg (show ¬ (tokL (.deed ps ts)).headD Str.empty = (("look" : String) : Str) by show ¬ (("do" : String) : Str) = "look"; decide +kernel)).trans ?_
    refine (if_pos (show (tokL (.deed ps ts)).headD Str.empty = (("do" : String) : Str) from rfl)).trans ?_
    exact readDo_ok h
end Dr

set_option Elab.async false
set_option linter.all false
set_option maxRecDepth 100000
set_option maxHeartbeats 8000000
/-! Doors: which words stand in a line, plain. -/
namespace Dr
open PySem L2 Cs
theorem mem_sepB (b : Str) : ∀ (ks : List Str) (z : Str), z ∈ ks → z ∈ sepB b ks
  | [], z, h => by cases h
  | [x], z, h => h
  | x :: y :: r, z, h => by
    show z ∈ x :: b :: sepB b (y :: r)
    rcases List.mem_cons.mp h with e | h
    · rw [e]; exact List.mem_cons_self
    · exact List.mem_cons_of_mem _ (List.mem_cons_of_mem _ (mem_sepB b (y :: r) z h))
theorem mem_sepL {b : Str} : ∀ {gs : List (List Str)} {g : List Str} {z : Str}, g ∈ gs → z ∈ g → z ∈ sepL b gs
  | [], g, z, h, _ => by cases h
  | [x], g, z, h, hz => by rw [List.mem_singleton.mp h] at hz; exact hz
  | x :: y :: r, g, z, h, hz => by
    show z ∈ x ++ b :: sepL b (y :: r)
    rcases List.mem_cons.mp h with e | h
    · exact List.mem_append_left _ (e ▸ hz)
    · exact List.mem_append_right _ (List.mem_cons_of_mem _ (mem_sepL h hz))
/-- signs and joining words -/
def PLAIN : List Str := ["or", "other", "+", "->", "and", "then", "if", "hold", "look", "do", "<", "<=", "=", "!=", ">=", ">"]
theorem tokT_mem {t : TestD} (h : GoodT t) {z : Str} (hz : z ∈ tokT t) : z ∈ kindsT t ∨ (z = (("row" : String) : Str) ∧ t.word = (("row" : String) : Str)) ∨ z ∈ PLAIN ∨ ∃ n : Int, 0 ≤ n ∧ n ≤ 9 ∧ z = ntS n := by
  cases t with
  | row ks =>
    have hz : z ∈ (("row" : String) : Str) :: sepB "or" ks := hz
    rcases List.mem_cons.mp hz with e | e
    · exact .inr (.inl ⟨e, rfl⟩)
    · rcases sepB_mem _ _ _ e with e | e
      · rw [e]; exact .inr (.inr (.inl (by decide +kernel)))
      · exact .inl e
  | sum o ks sg n =>
    obtain ⟨hk, hs, h0, h9⟩ := h
    have hz : z ∈ (if o = true then [(("other" : String) : Str)] else []) ++ (sepB "+" ks ++ [sg, ntS n]) := hz
    rcases List.mem_append.mp hz with e | e
    · split at e
      · rw [List.mem_singleton.mp e]; exact .inr (.inr (.inl (by decide +kernel)))
      · cases e
    · rcases List.mem_append.mp e with e | e
      · rcases sepB_mem _ _ _ e with e | e
        · rw [e]; exact .inr (.inr (.inl (by decide +kernel)))
        · exact .inl e
      · rcases List.mem_cons.mp e with e | e
        · rw [e]
          exact .inr (.inr (.inl ((show ∀ s ∈ SIGNS, s ∈ PLAIN by decide +kernel) sg hs)))
        · exact .inr (.inr (.inr ⟨n, h0, h9, List.mem_singleton.mp e⟩))
theorem tokT_kind {t : TestD} {z : Str} (hz : z ∈ kindsT t) : z ∈ tokT t := by
  cases t with
  | row ks => exact List.mem_cons_of_mem _ (mem_sepB _ _ _ hz)
  | sum o ks sg n => exact List.mem_append_right _ (List.mem_append_left _ (mem_sepB _ _ _ hz))
theorem tokT_row {t : TestD} (h : t.word = (("row" : String) : Str)) : (("row" : String) : Str) ∈ tokT t := by
  cases t with
  | row ks => exact List.mem_cons_self
  | sum o ks sg n => exact absurd h (by show ¬ (("sum" : String) : Str) = "row"; decide +kernel)
def told (p : PartD) : List Str := (toldL p).flatten
theorem tokP_mem {p : PartD} {z : Str} (hz : z ∈ tokP p) : z ∈ told p ∨ z = p.word ∨ z ∈ PLAIN := by
  cases p with
  | join => exact .inr (.inl (List.mem_singleton.mp hz))
  | new k =>
    rcases List.mem_cons.mp (show z ∈ [(("new" : String) : Str), k] from hz) with e | e
    · exact .inr (.inl e)
    · exact .inl e
  | kinds w ks af =>
    rcases List.mem_cons.mp (show z ∈ w :: (sepB "or" ks ++ [(("->" : String) : Str), af]) from hz) with e | e
    · exact .inr (.inl e)
    · rcases List.mem_append.mp e with e | e
      · rcases sepB_mem _ _ _ e with e | e
        · rw [e]; exact .inr (.inr (by decide +kernel))
        · exact .inl (List.mem_append_left _ e)
      · rcases List.mem_cons.mp e with e | e
        · rw [e]; exact .inr (.inr (by decide +kernel))
        · exact .inl (List.mem_append_right _ (by show z ∈ [af] ++ []; rw [List.append_nil]; exact e))
  | kind w k af =>
    rcases List.mem_cons.mp (show z ∈ w :: ([k] ++ [(("->" : String) : Str), af]) from hz) with e | e
    · exact .inr (.inl e)
    · rcases List.mem_cons.mp e with e | e
      · exact .inl (by rw [e]; exact List.mem_cons_self)
      · rcases List.mem_cons.mp e with e | e
        · rw [e]; exact .inr (.inr (by decide +kernel))
        · exact .inl (List.mem_cons_of_mem _ e)
theorem tokP_word (p : PartD) : p.word ∈ tokP p := by
  cases p <;> exact List.mem_cons_self
theorem tokP_told {p : PartD} {z : Str} (hz : z ∈ told p) : z ∈ tokP p := by
  cases p with
  | join => cases hz
  | new k => exact List.mem_cons_of_mem _ hz
  | kinds w ks af =>
    have hz : z ∈ ks ++ ([af] ++ []) := hz
    show z ∈ w :: (sepB "or" ks ++ [(("->" : String) : Str), af])
    rcases List.mem_append.mp hz with e | e
    · exact List.mem_cons_of_mem _ (List.mem_append_left _ (mem_sepB _ _ _ e))
    · exact List.mem_cons_of_mem _ (List.mem_append_right _ (List.mem_cons_of_mem _ (by rw [List.append_nil] at e; exact e)))
  | kind w k af =>
    have hz : z ∈ k :: [af] := hz
    show z ∈ w :: ([k] ++ [(("->" : String) : Str), af])
    rcases List.mem_cons.mp hz with e | e
    · rw [e]; exact List.mem_cons_of_mem _ List.mem_cons_self
    · exact List.mem_cons_of_mem _ (List.mem_cons_of_mem _ (List.mem_cons_of_mem _ e))
theorem ifT_mem {ts : List TestD} {z : Str} (h : z ∈ ifT ts) : z = (("if" : String) : Str) ∨ z = (("and" : String) : Str) ∨ ∃ t ∈ ts, z ∈ tokT t := by
  cases ts with
  | nil => cases h
  | cons t r =>
    rcases List.mem_cons.mp h with e | e
    · exact .inl e
    · rcases sepL_mem e with e | ⟨g, m, e⟩
      · exact .inr (.inl e)
      · obtain ⟨x, mx, rfl⟩ := List.mem_map.mp m
        exact .inr (.inr ⟨x, mx, e⟩)
theorem mem_ifT {ts : List TestD} {t : TestD} {z : Str} (m : t ∈ ts) (h : z ∈ tokT t) : z ∈ ifT ts := by
  cases ts with
  | nil => cases m
  | cons t' r => exact List.mem_cons_of_mem _ (mem_sepL (List.mem_map_of_mem m) h)
theorem tokL_mem {t : StepD} {z : Str} (h : z ∈ tokL t) : (∃ x ∈ t.tests, z ∈ tokT x) ∨ (∃ p ∈ t.parts, z ∈ tokP p) ∨ z ∈ PLAIN := by
  cases t with
  | hold => rw [List.mem_singleton.mp h]; exact .inr (.inr (by decide +kernel))
  | look ts =>
    rcases List.mem_cons.mp h with e | e
    · rw [e]; exact .inr (.inr (by decide +kernel))
    · rcases sepL_mem e with e | ⟨g, m, e⟩
      · rw [e]; exact .inr (.inr (by decide +kernel))
      · obtain ⟨x, mx, rfl⟩ := List.mem_map.mp m
        exact .inl ⟨x, mx, e⟩
  | deed ps ts =>
    rcases List.mem_cons.mp h with e | e
    · rw [e]; exact .inr (.inr (by decide +kernel))
    · rcases List.mem_append.mp e with e | e
      · rcases sepL_mem e with e | ⟨g, m, e⟩
        · rw [e]; exact .inr (.inr (by decide +kernel))
        · obtain ⟨x, mx, rfl⟩ := List.mem_map.mp m
          exact .inr (.inl ⟨x, mx, e⟩)
      · rcases ifT_mem e with e | e | ⟨x, mx, e⟩
        · rw [e]; exact .inr (.inr (by decide +kernel))
        · rw [e]; exact .inr (.inr (by decide +kernel))
        · exact .inl ⟨x, mx, e⟩
theorem mem_tokL_t {t : StepD} {x : TestD} {z : Str} (m : x ∈ t.tests) (h : z ∈ tokT x) : z ∈ tokL t := by
  cases t with
  | hold => cases m
  | look ts => exact List.mem_cons_of_mem _ (mem_sepL (List.mem_map_of_mem m) h)
  | deed ps ts => exact List.mem_cons_of_mem _ (List.mem_append_right _ (mem_ifT m h))
theorem mem_tokL_p {t : StepD} {x : PartD} {z : Str} (m : x ∈ t.parts) (h : z ∈ tokP x) : z ∈ tokL t := by
  cases t with
  | hold => cases m
  | look ts => cases m
  | deed ps ts => exact List.mem_cons_of_mem _ (List.mem_append_left _ (mem_sepL (List.mem_map_of_mem m) h))
theorem GoodS.tests {t : StepD} (h : GoodS t) : ∀ x ∈ t.tests, GoodT x := by
  cases t with
  | hold => exact fun x m => by cases m
  | look ts => exact h.2.2.1
  | deed ps ts => exact GoodDo.gt h
theorem GoodS.parts {t : StepD} (h : GoodS t) : ∀ x ∈ t.parts, GoodP x := by
  cases t with
  | hold => exact fun x m => by cases m
  | look ts => exact fun x m => by cases m
  | deed ps ts => exact GoodDo.gp h
theorem told_res {p : PartD} (h : GoodP p) {z : Str} (m : z ∈ told p) : kindB z = true ∨ z = (("gone" : String) : Str) := by
  cases p with
  | join => cases m
  | new k => rw [List.mem_singleton.mp m]; exact .inl h
  | kinds w ks af =>
    rcases List.mem_append.mp m with e | e
    · exact .inl (h.1.kd z e)
    · have e : z = af := List.mem_singleton.mp (show z ∈ [af] from by have q : z ∈ [af] ++ [] := e; rw [List.append_nil] at q; exact q)
      rw [e]
      rcases h.2 with ⟨_, ha⟩ | ⟨_, ha⟩
      · exact ha
      · exact .inl ha
  | kind w k af =>
    rcases List.mem_cons.mp m with e | e
    · rw [e]; exact .inl h.1
    · have e : z = af := List.mem_singleton.mp (show z ∈ [af] from by have q : z ∈ [af] ++ [] := e; rw [List.append_nil] at q; exact q)
      rw [e]
      rcases h.2 with ⟨_, ha⟩ | ⟨_, ha⟩
      · exact ha
      · exact .inl ha
theorem kindsT_kd {t : TestD} (h : GoodT t) {z : Str} (m : z ∈ kindsT t) : kindB z = true := by
  cases t with
  | row ks => exact h.kd z m
  | sum o ks sg n => exact h.1.kd z m
theorem cnt_pos {hs ws : List Str} : 0 < cntIn hs ws ↔ ∃ z ∈ hs, z ∈ ws := by
  unfold cntIn
  rw [List.length_pos_iff_exists_mem]
  constructor
  · rintro ⟨z, m⟩
    obtain ⟨m1, m2⟩ := List.mem_filter.mp m
    exact ⟨z, m1, of_decide_eq_true m2⟩
  · rintro ⟨z, m1, m2⟩
    exact ⟨z, List.mem_filter.mpr ⟨m1, decide_eq_true m2⟩⟩
def hasW (zs ws : List Str) : Bool := zs.any fun z => decide (z ∈ ws)
theorem hasW_iff {zs ws : List Str} : hasW zs ws = true ↔ ∃ z ∈ zs, z ∈ ws := by
  unfold hasW
  rw [List.any_eq_true]
  exact ⟨fun ⟨z, m, e⟩ => ⟨z, m, of_decide_eq_true e⟩, fun ⟨z, m, e⟩ => ⟨z, m, decide_eq_true e⟩⟩
theorem dig_ne {n : Int} (h0 : 0 ≤ n) (h9 : n ≤ 9) : ntS n ∉ RG ∧ ntS n ∉ CROSS ∧ kindB (ntS n) = false := by
  obtain ⟨d, rfl⟩ := Int.eq_ofNat_of_zero_le h0
  exact (show ∀ d : Nat, d < 10 → ntS (d : Int) ∉ RG ∧ ntS (d : Int) ∉ CROSS ∧ kindB (ntS (d : Int)) = false by decide +kernel) d (by omega)
theorem plain_ne : ∀ z ∈ PLAIN, z ∉ RG ∧ z ∉ CROSS ∧ kindB z = false := by decide +kernel
theorem rg_res : ∀ z, z ∈ RG ∨ z ∈ CROSS → z ∈ RES ∧ z ≠ (("gone" : String) : Str) := by
  have h1 : ∀ z ∈ RG, z ∈ RES ∧ z ≠ (("gone" : String) : Str) := by decide +kernel
  have h2 : ∀ z ∈ CROSS, z ∈ RES ∧ z ≠ (("gone" : String) : Str) := by decide +kernel
  exact fun z h => h.elim (h1 z) (h2 z)
theorem has_cross {t : StepD} (h : GoodS t) : hasW (tokL t) CROSS = touchB t := by
  rw [Bool.eq_iff_iff, hasW_iff]
  unfold touchB
  rw [decide_eq_true_eq, cnt_pos]
  constructor
  · rintro ⟨z, m, c⟩
    obtain ⟨hr, hg⟩ := rg_res z (.inr c)
    rcases tokL_mem m with ⟨x, mx, e⟩ | ⟨p, mp, e⟩ | e
    · rcases tokT_mem (h.tests x mx) e with e | ⟨e, _⟩ | e | ⟨n, h0, h9, e⟩
      · exact absurd hr (kind_res (kindsT_kd (h.tests x mx) e))
      · rw [e] at c; exact absurd c (by decide +kernel)
      · exact absurd c (plain_ne z e).2.1
      · rw [e] at c; exact absurd c (dig_ne h0 h9).2.1
    · rcases tokP_mem e with e | e | e
      · rcases told_res (h.parts p mp) e with q | q
        · exact absurd hr (kind_res q)
        · exact absurd q hg
      · exact ⟨z, List.mem_map.mpr ⟨p, mp, e.symm⟩, c⟩
      · exact absurd c (plain_ne z e).2.1
    · exact absurd c (plain_ne z e).2.1
  · rintro ⟨z, m, c⟩
    obtain ⟨p, mp, rfl⟩ := List.mem_map.mp m
    exact ⟨_, mem_tokL_p mp (tokP_word p), c⟩
theorem has_row {t : StepD} (h : GoodS t) : hasW (tokL t) RG = rowB t := by
  rw [Bool.eq_iff_iff, hasW_iff]
  unfold rowB
  rw [decide_eq_true_eq]
  have key : 0 < cntIn (t.parts.map PartD.word) RG + cntIn (t.tests.map TestD.word) ["row"] ↔ (0 < cntIn (t.parts.map PartD.word) RG ∨ 0 < cntIn (t.tests.map TestD.word) ["row"]) := by omega
  rw [key, cnt_pos, cnt_pos]
  constructor
  · rintro ⟨z, m, c⟩
    obtain ⟨hr, hg⟩ := rg_res z (.inl c)
    rcases tokL_mem m with ⟨x, mx, e⟩ | ⟨p, mp, e⟩ | e
    · rcases tokT_mem (h.tests x mx) e with e | ⟨e, e2⟩ | e | ⟨n, h0, h9, e⟩
      · exact absurd hr (kind_res (kindsT_kd (h.tests x mx) e))
      · exact .inr ⟨_, List.mem_map.mpr ⟨x, mx, e2⟩, List.mem_singleton.mpr rfl⟩
      · exact absurd c (plain_ne z e).1
      · rw [e] at c; exact absurd c (dig_ne h0 h9).1
    · rcases tokP_mem e with e | e | e
      · rcases told_res (h.parts p mp) e with q | q
        · exact absurd hr (kind_res q)
        · exact absurd q hg
      · exact .inl ⟨z, List.mem_map.mpr ⟨p, mp, e.symm⟩, c⟩
      · exact absurd c (plain_ne z e).1
    · exact absurd c (plain_ne z e).1
  · rintro (⟨z, m, c⟩ | ⟨z, m, c⟩)
    · obtain ⟨p, mp, rfl⟩ := List.mem_map.mp m
      exact ⟨_, mem_tokL_p mp (tokP_word p), c⟩
    · obtain ⟨x, mx, rfl⟩ := List.mem_map.mp m
      have e : x.word = (("row" : String) : Str) := List.mem_singleton.mp c
      exact ⟨_, mem_tokL_t mx (tokT_row e), by decide +kernel⟩
/-- a kind stands in a line exactly if the step tells it -/
theorem has_kind {t : StepD} (h : GoodS t) {z : Str} (hz : kindB z = true) : z ∈ tokL t ↔ z ∈ stepKinds t := by
  have hg := kind_gone hz
  have nr := kind_res hz
  unfold stepKinds
  rw [List.mem_filter]
  constructor
  · intro m
    refine ⟨?_, by rw [decide_eq_false hg]; rfl⟩
    unfold rawKinds
    rw [List.mem_append, List.mem_flatMap, List.mem_flatMap]
    rcases tokL_mem m with ⟨x, mx, e⟩ | ⟨p, mp, e⟩ | e
    · rcases tokT_mem (h.tests x mx) e with e | ⟨e, e2⟩ | e | ⟨n, h0, h9, e⟩
      · exact .inl ⟨x, mx, e⟩
      · rw [e] at nr; exact absurd (by decide +kernel) nr
      · rw [(plain_ne z e).2.2] at hz; cases hz
      · rw [e, (dig_ne h0 h9).2.2] at hz; cases hz
    · rcases tokP_mem e with e | e | e
      · exact .inr ⟨p, mp, e⟩
      · exfalso
        have hp := h.parts p mp
        have key : p.word ∈ RES := by
          cases p with
          | join => show (("join" : String) : Str) ∈ RES; decide +kernel
          | new k => show (("new" : String) : Str) ∈ RES; decide +kernel
          | kinds w ks af =>
            show w ∈ RES
            rcases hp.2 with ⟨e, _⟩ | ⟨e, _⟩ <;> (rw [e]; decide +kernel)
          | kind w k af =>
            show w ∈ RES
            rcases hp.2 with ⟨e | e, _⟩ | ⟨e, _⟩ <;> (rw [e]; decide +kernel)
        exact nr (e ▸ key)
      · rw [(plain_ne z e).2.2] at hz; cases hz
    · rw [(plain_ne z e).2.2] at hz; cases hz
  · rintro ⟨m, _⟩
    unfold rawKinds at m
    rw [List.mem_append, List.mem_flatMap, List.mem_flatMap] at m
    rcases m with ⟨x, mx, e⟩ | ⟨p, mp, e⟩
    · exact mem_tokL_t mx (tokT_kind e)
    · exact mem_tokL_p mp (tokP_told e)
end Dr

set_option Elab.async false
set_option linter.all false
set_option maxRecDepth 100000
set_option maxHeartbeats 8000000
/-! Doors: good lines are in bounds, plain. -/
namespace Dr
open PySem L2 Cs
theorem joinS_lenD (sep : Str) : ∀ ts : List Str, (Str.join sep ts).length ≤ (ts.map (·.length)).sum + ts.length * sep.length
  | [] => Nat.zero_le _
  | [x] => by show x.length ≤ _; simp
  | x :: y :: r => by
    have ih := joinS_lenD sep (y :: r)
    show (x ++ sep ++ Str.join sep (y :: r)).length ≤ _
    rw [strLen_append, strLen_append]
    simp only [List.map_cons, List.sum_cons, List.length_cons, Nat.add_mul, Nat.one_mul] at ih ⊢
    omega
theorem sumS_leD {B : Nat} : ∀ {ts : List Str}, (∀ t ∈ ts, t.length ≤ B) → (ts.map (·.length)).sum ≤ ts.length * B
  | [], _ => Nat.zero_le _
  | t :: ts, h => by
    have := sumS_leD (fun q m => h q (List.mem_cons_of_mem _ m))
    have := h t List.mem_cons_self
    simp only [List.map_cons, List.sum_cons, List.length_cons, Nat.add_mul, Nat.one_mul]
    omega
/-- a good token -/
def TokO (z : Str) : Prop := 32 ∉ TL.tl z ∧ PyData.strOk z = true ∧ z.length ≤ 20
theorem word_of {z : Str} (h : wordB z = true) : Word z := by
  unfold wordB at h
  simp only [Bool.and_eq_true, decide_eq_true_eq, List.all_eq_true] at h
  exact ⟨h.1.1, h.1.2, h.2⟩
theorem word_tok {z : Str} (h : Word z) : TokO z := by
  refine ⟨fun m => absurd (h.2.2 32 m) (by decide +kernel), ?_, Nat.le_trans h.2.1 (by decide)⟩
  unfold PyData.strOk
  rw [← Array.all_toList, List.all_eq_true]
  intro c hc
  have h2 : ∀ c ∈ LET.cps.toList, c < 0x110000 := by decide +kernel
  exact decide_eq_true (h2 c (h.2.2 c hc))
theorem kind_tok {z : Str} (h : kindB z = true) : TokO z := by
  unfold kindB at h
  rw [Bool.and_eq_true] at h
  exact word_tok (word_of h.1)
theorem lit_tok : ∀ z ∈ PLAIN ++ RES, TokO z := by
  intro z m
  have key : ∀ z ∈ PLAIN ++ RES, (decide (32 ∉ TL.tl z) && (PyData.strOk z && decide (z.length ≤ 20))) = true := by decide +kernel
  have h := key z m
  simp only [Bool.and_eq_true, decide_eq_true_eq] at h
  exact ⟨h.1, h.2.1, h.2.2⟩
theorem dig_tok {n : Int} (h0 : 0 ≤ n) (h9 : n ≤ 9) : TokO (ntS n) := by
  obtain ⟨d, rfl⟩ := Int.eq_ofNat_of_zero_le h0
  have h := (show ∀ d : Nat, d < 10 → (decide (32 ∉ TL.tl (ntS (d : Int))) && (PyData.strOk (ntS (d : Int)) && decide ((ntS (d : Int)).length ≤ 20))) = true by decide +kernel) d (by omega)
  simp only [Bool.and_eq_true, decide_eq_true_eq] at h
  exact ⟨h.1, h.2.1, h.2.2⟩
theorem part_word {p : PartD} (h : GoodP p) : p.word ∈ RES := by
  cases p with
  | join => show (("join" : String) : Str) ∈ RES; decide +kernel
  | new k => show (("new" : String) : Str) ∈ RES; decide +kernel
  | kinds w ks af =>
    show w ∈ RES
    rcases h.2 with ⟨e, _⟩ | ⟨e, _⟩ <;> (rw [e]; decide +kernel)
  | kind w k af =>
    show w ∈ RES
    rcases h.2 with ⟨e | e, _⟩ | ⟨e, _⟩ <;> (rw [e]; decide +kernel)
theorem tokL_tok {t : StepD} (h : GoodS t) : ∀ z ∈ tokL t, TokO z := by
  intro z m
  have pl : z ∈ PLAIN → TokO z := fun q => lit_tok z (List.mem_append_left _ q)
  have rs : z ∈ RES → TokO z := fun q => lit_tok z (List.mem_append_right _ q)
  rcases tokL_mem m with ⟨x, mx, e⟩ | ⟨p, mp, e⟩ | e
  · rcases tokT_mem (h.tests x mx) e with e | ⟨e, _⟩ | e | ⟨n, h0, h9, e⟩
    · exact kind_tok (kindsT_kd (h.tests x mx) e)
    · exact rs (by rw [e]; decide +kernel)
    · exact pl e
    · rw [e]; exact dig_tok h0 h9
  · rcases tokP_mem e with e | e | e
    · rcases told_res (h.parts p mp) e with q | q
      · exact kind_tok q
      · exact rs (by rw [q]; decide +kernel)
    · exact rs (e ▸ part_word (h.parts p mp))
    · exact pl e
  · exact pl e
theorem sepB_len2 (b : Str) {ks : List Str} (h : GoodKs ks) : (sepB b ks).length ≤ 9 := by
  have := sepB_len b ks h.ne
  have := h.few
  omega
theorem tokT_len {t : TestD} (h : GoodT t) : (tokT t).length ≤ 12 := by
  cases t with
  | row ks => have := sepB_len2 "or" h; show (sepB "or" ks).length + 1 ≤ 12; omega
  | sum o ks sg n =>
    have := sepB_len2 "+" h.1
    show ((if o = true then [(("other" : String) : Str)] else []) ++ (sepB "+" ks ++ [sg, ntS n])).length ≤ 12
    rw [List.length_append, List.length_append]
    have : (if o = true then [(("other" : String) : Str)] else []).length ≤ 1 := by split <;> simp
    simp
    omega
theorem tokP_len {p : PartD} (h : GoodP p) : (tokP p).length ≤ 12 := by
  cases p with
  | join => show 1 ≤ 12; decide
  | new k => show 2 ≤ 12; decide
  | kinds w ks af =>
    have := sepB_len2 "or" h.1
    show (sepB "or" ks ++ [(("->" : String) : Str), af]).length + 1 ≤ 12
    rw [List.length_append]
    show (sepB "or" ks).length + 2 + 1 ≤ 12
    omega
  | kind w k af => show 4 ≤ 12; decide
theorem sepL_len (b : Str) : ∀ gs : List (List Str), (∀ g ∈ gs, g.length ≤ 12) → (sepL b gs).length ≤ 13 * gs.length
  | [], _ => Nat.zero_le _
  | [x], h => by have := h x List.mem_cons_self; show x.length ≤ 13; omega
  | x :: y :: r, h => by
    have ih := sepL_len b (y :: r) fun g m => h g (List.mem_cons_of_mem _ m)
    have := h x List.mem_cons_self
    show (x ++ b :: sepL b (y :: r)).length ≤ 13 * ((y :: r).length + 1)
    rw [List.length_append, List.length_cons]
    omega
theorem tokL_len {t : StepD} (h : GoodS t) : (tokL t).length ≤ 120 := by
  have ht : ∀ g ∈ t.tests.map tokT, g.length ≤ 12 := fun g m => by obtain ⟨x, mx, rfl⟩ := List.mem_map.mp m; exact tokT_len (h.tests x mx)
  have hp : ∀ g ∈ t.parts.map tokP, g.length ≤ 12 := fun g m => by obtain ⟨x, mx, rfl⟩ := List.mem_map.mp m; exact tokP_len (h.parts x mx)
  cases t with
  | hold => show 1 ≤ 120; decide
  | look ts =>
    have := sepL_len "and" _ ht
    have e : (StepD.look ts).tests = ts := rfl
    rw [e, List.length_map] at this
    have l := h.2.1
    show (sepL "and" (ts.map tokT)).length + 1 ≤ 120
    omega
  | deed ps ts =>
    have a1 := sepL_len "and" _ ht
    have a2 := sepL_len "then" _ hp
    have e : (StepD.deed ps ts).tests = ts := rfl
    have e2 : (StepD.deed ps ts).parts = ps := rfl
    rw [e, List.length_map] at a1
    rw [e2, List.length_map] at a2
    have l := GoodDo.tfew h
    have l2 := GoodDo.few h
    show (sepL "then" (ps.map tokP) ++ ifT ts).length + 1 ≤ 120
    rw [List.length_append]
    have : (ifT ts).length ≤ (sepL "and" (ts.map tokT)).length + 1 := by
      cases ts with
      | nil => exact Nat.zero_le _
      | cons t r => exact Nat.le_refl _
    omega
theorem tokL_ne (t : StepD) : tokL t ≠ [] := by
  cases t <;> simp [tokL]
/-- the line of a step -/
def lineS (t : StepD) : Str := Txt.join " " (tokL t)
theorem line_split {t : StepD} (h : GoodS t) : Txt.split (lineS t) " " = tokL t := TL.split_join (s := 32) (S := []) (by decide +kernel) (by decide +kernel) (tokL_ne t) fun p m => (tokL_tok h p m).1
theorem line_len {t : StepD} (h : GoodS t) : (lineS t).length ≤ 3000 := by
  have h1 := joinS_lenD " " (tokL t)
  have h2 := sumS_leD (B := 20) (ts := tokL t) fun z m => (tokL_tok h z m).2.2
  have h3 := tokL_len h
  unfold lineS
  rw [TL.join_eq]
  have e : ((" " : String) : Str).length = 1 := rfl
  rw [e] at h1
  omega
theorem line_ok {t : StepD} (h : GoodS t) : LineOk (lineS t) ∧ readLine (lineS t) = some t := by
  have e := line_split h
  have hl := line_len h
  refine ⟨⟨Nat.le_trans (show _ ≤ 4000 by omega) (by decide), by rw [e]; exact tokL_ne t, ?_⟩, ?_⟩
  · rw [e]
    exact ⟨Nat.le_trans (tokL_len h) (by decide), fun z m => Nat.le_trans (tokL_tok h z m).2.2 (by decide), fun z m => (tokL_tok h z m).2.1⟩
  · unfold readLine
    rw [e]
    exact readToks_ok h
end Dr

set_option Elab.async false
set_option linter.all false
set_option maxRecDepth 100000
set_option maxHeartbeats 8000000
set_option pp.maxSteps 600
/-! The law's kinds: drawn words, moved on by their last letter until they are free. -/
namespace Cs
open PySem L2
/-- a text by its codes -/
abbrev Tx (l : List Nat) : Str := ⟨l.toArray⟩
theorem let_range : LET.cps.toList = (List.range 26).map (97 + ·) := by decide +kernel
theorem mem_let {c : Nat} : c ∈ LET.cps.toList ↔ ∃ i, i < 26 ∧ c = 97 + i := by
  rw [let_range, List.mem_map]
  constructor
  · rintro ⟨i, hi, e⟩
    exact ⟨i, List.mem_range.mp hi, e.symm⟩
  · rintro ⟨i, hi, e⟩
    exact ⟨i, List.mem_range.mpr hi, e.symm⟩
theorem let_at {i : Nat} (h : i < 26) : LET.cps.toList[i]? = some (97 + i) := by
  rw [let_range, List.getElem?_map, List.getElem?_range h]
  rfl
theorem let_index : ∀ i, i < 26 → Builtin.Str.occurrences LET ⟨#[97 + i]⟩ 0 LET.length 1 = [i] := by decide +kernel
/-- the word with its last letter moved on -/
def rot (l : List Nat) (i m : Nat) : Str := Tx (l ++ [97 + (i + m) % 26])
theorem rot_word {l : List Nat} (i m : Nat) (h7 : l.length ≤ 7) (hl : ∀ c ∈ l, c ∈ LET.cps.toList) : Word (rot l i m) := by
  refine ⟨?_, ?_, fun c hc => ?_⟩
  · show 1 ≤ (l ++ [97 + (i + m) % 26]).toArray.size
    simp
  · show (l ++ [97 + (i + m) % 26]).toArray.size ≤ 8
    simp
    omega
  · have hc : c ∈ l ++ [97 + (i + m) % 26] := hc
    rcases List.mem_append.mp hc with q | q
    · exact hl c q
    · rw [List.mem_singleton.mp q]
      exact mem_let.mpr ⟨_, Nat.mod_lt _ (by decide), rfl⟩
theorem word_rot {z : Str} (h : Word z) : ∃ l i, i < 26 ∧ z = rot l i 0 ∧ l.length ≤ 7 ∧ ∀ c ∈ l, c ∈ LET.cps.toList := by
  obtain ⟨⟨ls⟩, ez⟩ : ∃ a, z = ⟨a⟩ := ⟨_, rfl⟩
  subst ez
  obtain ⟨h1, h2, h3⟩ := h
  have h1 : 1 ≤ ls.length := h1
  have h2 : ls.length ≤ 8 := h2
  have ne : ls ≠ [] := by
    rintro rfl
    simp at h1
  have e := List.dropLast_concat_getLast ne
  obtain ⟨i, hi, ei⟩ := mem_let.mp (h3 (ls.getLast ne) (List.getLast_mem ne))
  refine ⟨ls.dropLast, i, hi, ?_, by rw [List.length_dropLast]; omega, fun c hc => h3 c ((List.dropLast_sublist ls).subset hc)⟩
  unfold rot Tx
  rw [Nat.add_zero, Nat.mod_eq_of_lt hi, ← ei, e]
theorem rot_inj {l : List Nat} {i a b : Nat} (ha : a < 26) (hb : b < 26) (h : rot l i a = rot l i b) : a = b := by
  unfold rot Tx at h
  have h := congrArg (fun z : Str => z.cps.toList) h
  have h : l ++ [97 + (i + a) % 26] = l ++ [97 + (i + b) % 26] := h
  have h := List.append_cancel_left h
  have h : 97 + (i + a) % 26 = 97 + (i + b) % 26 := List.cons.inj h |>.1
  omega
theorem rot_free {l : List Nat} {i : Nat} {bs : List Str} (hb : bs.length ≤ 25) (h : ∀ j, j < 26 → rot l i j ∈ bs) : False := by
  have nd : ((List.range 26).map (rot l i)).Nodup := by
    rw [List.Nodup, List.pairwise_map]
    refine List.nodup_range.imp_of_mem fun {a b} ha hb' ne e => ne (rot_inj (List.mem_range.mp ha) (List.mem_range.mp hb') e)
  have := nd_len nd (ys := bs) fun z hz => by
    obtain ⟨j, hj, rfl⟩ := List.mem_map.mp hz
    exact h j (List.mem_range.mp hj)
  rw [List.length_map, List.length_range] at this
  omega
theorem rot_cut (l : List Nat) (c : Nat) : cutS (Tx (l ++ [c])) none (some (-1)) = Tx l := by
  unfold cutS
  have h1 : (Tx (l ++ [c])).length = l.length + 1 := by show (l ++ [c]).toArray.size = _; simp
  have h2 : HT.sIx (l.length + 1) 0 none = 0 := rfl
  have h3 : HT.sIx (l.length + 1) (l.length + 1) (some (-1)) = l.length := by
    unfold HT.sIx
    first
    | (simp; omega)
    | omega
    | simp
  rw [h1, h2, h3]
  show Tx (((l ++ [c]).drop 0).take (l.length - 0)) = Tx l
  simp
theorem tx_cat (a b : List Nat) : Tx a ++ Tx b = Tx (a ++ b) := str_ext (by rw [PySem.Str.cps_append]; simp)
def spKind : Sp := fun vs H Q _ => ∃ (p c tk : Addr) (ts : List Str), vs = [.ref p, .ref tk] ∧ Src H p c ∧ H tk = some (.lst (ts.map V.str)) ∧ ts.length ≤ 9 ∧ tk ≠ p ∧ ∀ (z : Str) (H' : Hp), Kind z → z ∉ ts → Src H' p c → Kp p H H' → Q (.str z) H'
def spKinds : Sp := fun vs H Q _ => ∃ (p c : Addr) (n : Nat), vs = [.ref p, .int n] ∧ Src H p c ∧ n ≤ 9 ∧ ∀ (q : Addr) (H' : Hp) (ks : List Str), H q = none → H' q = some (.lst (ks.map V.str)) → ks.length = n → ks.Nodup → (∀ z ∈ ks, Kind z) → Src H' p c → Kp p H H' → Q (.ref q) H'
def W13 : List Str := ["self", "at", "to", "exactly", "least", "most", "from", "rule", "door", "limit", "begin", "store", "loose"]
theorem w13 : ∀ j : Nat, j < 13 → ∃ z : Str, (W13.map V.str)[j]? = some (.str z) ∧ Word z := by
  intro j hj
  have key : ∀ z ∈ W13, Word z := by
    unfold W13
    intro z hz
    simp only [List.mem_cons, List.not_mem_nil, or_false] at hz
    rcases hz with rfl | rfl | rfl | rfl | rfl | rfl | rfl | rfl | rfl | rfl | rfl | rfl | rfl <;> exact ⟨by decide, by decide, by decide +kernel⟩
  have hl : j < W13.length := hj
  exact ⟨W13[j], by rw [List.getElem?_map, List.getElem?_eq_getElem hl]; rfl, key _ (List.getElem_mem hl)⟩
section
variable {P : Program} {w : World} {K : PySem.W.Frag} {mg : Str → Option Value} {base : Heap}
theorem ok_kind {f fD : Addr} {fd fdD : FuncData} (F : Fun K "_law_kind" "_law_kind" s_l_kind f fd) (g : Bi mg) (FD : Def P w K mg base CX0 2 "_law_draw" ["_law_source_here", "_law_size"] spDraw fD fdD) : FnOk P w K mg base CX0 3 f fd ["_law_source_here", "_law_taken"] spKind := by
  obtain ⟨GD, mD, _, bD⟩ := id FD
  refine F.ok sc_l_kind (fun vs H Q E h => ?_) (fun cdv A outer s H vs Q E hr h => ?_)
  · obtain ⟨_, _, _, _, rfl, _⟩ := h
    rfl
  · obtain ⟨p, c, tk, ts, rfl, S0, htk, hts, ntp, k⟩ := h
    have hrD : Room 2 _ := hr.mono (by decide)
    refine ⟨_, (pss_cons (ps_set (i := 2) sc_l_kind.nd rfl (Or.inl rfl) pe_str)
      (pss_cons (ps_set (i := 3) sc_l_kind.nd rfl (Or.inl rfl) (pe_lst (pa_cons pe_str (pa_cons pe_str (pa_cons pe_str (pa_cons pe_str (pa_cons pe_str (pa_cons pe_str (pa_cons pe_str (pa_cons pe_str (pa_cons pe_str (pa_cons pe_str (pa_cons pe_str (pa_cons pe_str (pa_cons pe_str (pa_cons pe_str pa_nil))))))))))))))))
      (pss_cons (ps_set (i := 3) sc_l_kind.nd rfl (Or.inl rfl) (pe_op op_cat (pv 3) (pe_lst (pa_cons pe_str (pa_cons pe_str pa_nil)))))
      (pss_cons (ps_set (i := 4) sc_l_kind.nd rfl (Or.inl rfl) (pe_lst (pa_cons pe_str (pa_cons pe_str (pa_cons pe_str (pa_cons pe_str (pa_cons pe_str (pa_cons pe_str (pa_cons pe_str (pa_cons pe_str (pa_cons pe_str (pa_cons pe_str (pa_cons pe_str (pa_cons pe_str (pa_cons pe_str pa_nil)))))))))))))))
      (pss_cons (ps_set (i := 5) sc_l_kind.nd rfl (Or.inl rfl) pe_str)
      (pss_cons (ps_for PassesOwn.never rfl (pi_range1 rfl g.range (pa_cons (pe_op op_add pe_int (pe_call GD hrD rfl mD FD.kp bD .nil pass0 (pa_cons (pv 0) (pa_cons pe_int pa_nil)))) pa_nil)) (pg_name (i := 6) sc_l_kind.nd rfl (Or.inl rfl)) (pss_one (ps_set (i := 5) sc_l_kind.nd rfl (Or.inl rfl) (pe_op op_add_str (pv 5) (pe_ix ix_str (pv 2) (pe_call GD hrD rfl mD FD.kp bD .nil pass0 (pa_cons (pv 0) (pa_cons pe_int pa_nil))) (fun _ _ => rfl))))))
      (C8.pss_cut (ps_if (pt_cmpR op_eq (pe_call GD hrD rfl mD FD.kp bD .nil pass0 (pa_cons (pv 0) (pa_cons pe_int pa_nil))) pe_int (nomark _)) (pss_one (ps_set (i := 5) sc_l_kind.nd rfl (Or.inl rfl) (pe_ix ix_list (pv 4) (pe_call GD hrD rfl mD FD.kp bD .nil pass0 (pa_cons (pv 0) (pa_cons pe_int pa_nil))) (fun _ _ => rfl)))) pss_nil)
      (pss_cons (ps_for PassesOwn.never rfl (pi_range1 rfl g.range (pa_cons pe_int pa_nil)) (pg_name (i := 6) sc_l_kind.nd rfl (Or.inl rfl)) (pss_one (ps_if (PW.pt (pw_or (pt_cmpR op_in_seq (pv 5) (pv 1) (by rfl)) (pw_or1 (pt_cmpR op_in_seq (pv 5) (pv 3) (by rfl))))) (pss_one (ps_set (i := 5) sc_l_kind.nd rfl (Or.inl rfl) (pe_op op_add_str (pe_slice sl_str (pv 5) po_none (po_some (pe_un un_neg pe_int))) (pe_ix ix_str (pv 2) (pe_op op_mod (pe_op op_add (pe_m1 PySem.F.slot_str_index PySem.F.type_str_index mt_sindex (pv 2) (pe_ix ix_str (pv 5) (pe_un un_neg pe_int) (fun _ _ => rfl))) pe_int) pe_int) (fun _ _ => rfl))))) pss_nil)))
      (pss_one (ps_ret (pv 5))))))))))), ?_⟩
    refine ⟨by show 14 ≤ sizeLine; decide, fun b1 hb1 => ?_⟩
    generalize hB1 : ([V.str "hold", .str "look", .str "do", .str "row", .str "one", .str "all", .str "new", .str "give", .str "take", .str "join", .str "other", .str "if", .str "and", .str "or"] : List V) = B1
    have s1 : Same H (upd H b1 (.lst B1)) := Same.new hb1
    have h1 : (upd H b1 (.lst B1)) b1 = some (.lst B1) := upd_same
    generalize upd H b1 (.lst B1) = H1 at s1 h1
    refine ⟨_, rfl, by show 2 ≤ sizeLine; decide, fun b2 hb2 => ?_⟩
    have s2 : Same H1 (upd H1 b2 (.lst [.str "then", .str "gone"])) := Same.new hb2
    have h2 : (upd H1 b2 (.lst [.str "then", .str "gone"])) b2 = some (.lst [.str "then", .str "gone"]) := upd_same
    generalize upd H1 b2 (.lst [.str "then", .str "gone"]) = H2 at s2 h2
    refine ⟨b1, b2, _, _, rfl, rfl, s2 _ _ h1, h2, by rw [← hB1]; show 14 + 2 ≤ sizeLine; decide, fun b3 hb3 => ?_⟩
    have eR : B1 ++ [.str "then", .str "gone"] = RES.map V.str := by rw [← hB1]; rfl
    rw [eR]
    have s3 : Same H2 (upd H2 b3 (.lst (RES.map V.str))) := Same.new hb3
    have h3 : (upd H2 b3 (.lst (RES.map V.str))) b3 = some (.lst (RES.map V.str)) := upd_same
    have n3p : b3 ≠ p := (S0.same (s1.trans s2)).new_p hb3
    generalize upd H2 b3 (.lst (RES.map V.str)) = H3 at s3 h3
    refine ⟨by show 13 ≤ sizeLine; decide, fun b4 hb4 => ?_⟩
    have s4 : Same H3 (upd H3 b4 (.lst (W13.map V.str))) := Same.new hb4
    have h4 : (upd H3 b4 (.lst (W13.map V.str))) b4 = some (.lst (W13.map V.str)) := upd_same
    have s14 := ((s1.trans s2).trans s3).trans s4
    have n4p : b4 ≠ p := (S0.same ((s1.trans s2).trans s3)).new_p hb4
    have eU : upd H3 b4 (.lst (W13.map V.str)) = upd H3 b4 (.lst [V.str "self", .str "at", .str "to", .str "exactly", .str "least", .str "most", .str "from", .str "rule", .str "door", .str "limit", .str "begin", .str "store", .str "loose"]) := rfl
    rw [eU] at s4 h4 s14
    generalize upd H3 b4 (.lst [V.str "self", .str "at", .str "to", .str "exactly", .str "least", .str "most", .str "from", .str "rule", .str "door", .str "limit", .str "begin", .str "store", .str "loose"]) = H4 at s4 h4 s14
    have S4 := S0.same s14
    have h34 := s4 _ _ h3
    have ht4 := s14 _ _ htk
    clear eU eR hB1 h1 h2 h3 s1 s2 s3 s4 hb1 hb2 hb3 hb4
    refine ⟨_, rfl, p, c, 8, rfl, S4, by decide, by decide, fun v1 H5 v10 v11 S5 k5 => ⟨_, _, rfl, rfl, _, rfl, by omega, by omega, ?_⟩⟩
    have kA := Kp.of (p := p) s14
    -- the letters
    refine for_range (lo := 0) (n := (1 + v1).toNat) (fun i σ' H' => ∃ (z : Str) (x6 : Option V), σ' = [some (.ref p), some (.ref tk), some (.str LET), some (.ref b3), some (.ref b4), some (.str z), x6] ∧ z.length = i ∧ (∀ c ∈ z.cps.toList, c ∈ LET.cps.toList) ∧ Src H' p c ∧ Kp p H4 H')
      ⟨Str.empty, _, rfl, rfl, (fun _ h => by cases h), S5, k5⟩ ?_ ?_
    · rintro i σ' H' hi ⟨z, x6, rfl, hz, hzl, S', k'⟩
      refine ⟨_, rfl, _, rfl, _, rfl, p, c, 26, rfl, S', by decide, by decide, fun v2 H6 v20 v21 S6 k6 => ?_⟩
      obtain ⟨j, ej⟩ : ∃ j : Nat, v2 = j := ⟨v2.toNat, by omega⟩
      subst ej
      have hj : j < 26 := by omega
      refine ⟨LET, (j : Int), 97 + j, rfl, rfl, by decide, atI_nat (let_at hj), ?_⟩
      refine ⟨z, _, rfl, rfl, ?_, ?_⟩
      · show z.length + 1 ≤ sizeLine
        exact Nat.le_trans (show z.length + 1 ≤ 100 by omega) (by decide)
      · refine ⟨_, _, rfl, ?_, fun d hd => ?_, S6, k'.trans k6⟩
        · rw [len_add]
          show z.length + 1 = i + 1
          omega
        · rw [PySem.Str.cps_append, Array.toList_append] at hd
          rcases List.mem_append.mp hd with q | q
          · exact hzl d q
          · have : d = 97 + j := by simpa using q
            rw [this]
            exact mem_let.mpr ⟨j, hj, rfl⟩
    rintro σ' H' ⟨z, x6, rfl, hz, hzl, S', k'⟩
    have hw0 : Word z := ⟨by omega, by omega, hzl⟩
    clear hz hzl
    -- a known word
    refine ⟨fun σ2 H2 => ∃ z : Str, σ2 = [some (.ref p), some (.ref tk), some (.str LET), some (.ref b3), some (.ref b4), some (.str z), x6] ∧ Word z ∧ Src H2 p c ∧ Kp p H4 H2, ?_, ?_⟩
    · refine ⟨_, rfl, p, c, 8, rfl, S', by decide, by decide, fun v2 H6 v20 v21 S6 k6 => ⟨rfl, _, rfl, ite2 (fun z1 => ?_) (fun z1 => ?_)⟩⟩
      · refine ⟨_, rfl, _, rfl, p, c, 13, rfl, S6, by decide, by decide, fun v3 H7 v30 v31 S7 k7 => ?_⟩
        have k47 := (k'.trans k6).trans k7
        obtain ⟨y, ey, hy⟩ := w13 v3.toNat (by omega)
        refine ⟨b4, _, v3, _, rfl, rfl, SqL.of (k47 _ _ h4 n4p), at_of (z := v3) (j := v3.toNat) (by omega) ey, ?_⟩
        exact ⟨y, rfl, hy, S7, k47⟩
      · exact ⟨z, rfl, hw0, S6, k'.trans k6⟩
    clear S' k' hw0
    rintro σ2 H6 ⟨z, rfl, hw, S6, k6⟩
    obtain ⟨l, i0, hi0, rfl, hl7, hll⟩ := word_rot hw
    have h36 := k6 _ _ h34 n3p
    have ht6 := k6 _ _ ht4 ntp
    have fl : (ts.map V.str).all flatV = true := flat_str ts
    have fr : (RES.map V.str).all flatV = true := flat_str RES
    refine ⟨26, rfl, by decide, by decide, ?_⟩
    refine for_range (lo := 0) (n := 26) (fun i σ' H' => H' = H6 ∧ ∃ (m : Nat) (x6 : Option V), σ' = [some (.ref p), some (.ref tk), some (.str LET), some (.ref b3), some (.ref b4), some (.str (rot l i0 m)), x6] ∧ m ≤ i ∧ (m < i → rot l i0 m ∉ ts ∧ rot l i0 m ∉ RES) ∧ ∀ j, j < m → rot l i0 j ∈ ts ++ RES)
      ⟨rfl, 0, _, rfl, Nat.le_refl _, (fun h => absurd h (Nat.lt_irrefl _)), fun j h => absurd h (Nat.not_lt_zero _)⟩ ?_ ?_
    · rintro i σ' H' hi ⟨rfl, m, x6, rfl, hm, hf, hb⟩
      have stop : rot l i0 m ∉ ts → rot l i0 m ∉ RES → ∃ (m' : Nat) (x6' : Option V), ([some (.ref p), some (.ref tk), some (.str LET), some (.ref b3), some (.ref b4), some (.str (rot l i0 m)), some (.int (0 + (i : Int)))] : L2.St) = [some (.ref p), some (.ref tk), some (.str LET), some (.ref b3), some (.ref b4), some (.str (rot l i0 m')), x6'] ∧ m' ≤ i + 1 ∧ (m' < i + 1 → rot l i0 m' ∉ ts ∧ rot l i0 m' ∉ RES) ∧ ∀ j, j < m' → rot l i0 j ∈ ts ++ RES :=
        fun a b => ⟨m, _, rfl, by omega, fun _ => ⟨a, b⟩, hb⟩
      have next : rot l i0 m ∈ ts ++ RES → m = i := fun q => by
        by_cases e : m = i
        · exact e
        · obtain ⟨a, b⟩ := hf (by omega)
          rcases List.mem_append.mp q with q | q
          · exact absurd q a
          · exact absurd q b
      have body : ∀ {D : Ends}, rot l i0 m ∈ ts ++ RES → True := fun _ => trivial
      refine ⟨_, rfl, _, rfl, tk, _, rfl, .inl (SqL.of ht6), rfl, fl, _, rfl, ?_⟩
      have hr1 : (rot l i0 m).length ≤ sizeLine := Nat.le_trans (rot_word i0 m hl7 hll).2.1 (by decide)
      have hmod : (i0 + m) % 26 < 26 := Nat.mod_lt _ (by decide)
      have hlast : atI (rot l i0 m).cps.toList (-1) = some (97 + (i0 + m) % 26) := atI_last l _
      have hsucc : Tx l ++ (⟨#[97 + ((i0 + m) % 26 + 1) % 26]⟩ : Str) = rot l i0 (m + 1) := by
        show Tx l ++ Tx [97 + ((i0 + m) % 26 + 1) % 26] = _
        rw [tx_cat]
        unfold rot
        rw [show ((i0 + m) % 26 + 1) % 26 = (i0 + (m + 1)) % 26 by omega]
      have hmod2 : ((i0 + m) % 26 + 1) % 26 < 26 := Nat.mod_lt _ (by decide)
      have ecut : cutS (rot l i0 m) none (some (-1)) = Tx l := rot_cut l _
      have eix : ((((i0 + m) % 26 : Nat) : Int) + 1) % 26 = ((((i0 + m) % 26 + 1) % 26 : Nat) : Int) := by omega
      have hl8 : (Tx l).length = l.length := by show l.toArray.size = _; simp
      rw [in_str]
      refine ite2 (fun z1 => ?_) (fun z1 => ?_)
      · have hin := of_decide_eq_true z1
        have hmem : rot l i0 m ∈ ts ++ RES := List.mem_append.mpr (.inl hin)
        refine ⟨_, rfl, _, rfl, _, rfl, rot l i0 m, rfl, hr1, ?_⟩

        refine ⟨_, rfl, _, rfl, ⟨_, rfl⟩, _, rfl, _, rfl, rot l i0 m, -1, _, rfl, rfl, hr1, hlast, LET, _, _, [], rfl, rfl, let_index _ hmod, _, _, rfl, rfl, _, _, rfl, rfl, (by show (0 : Int) < 26; decide), LET, _, 97 + ((i0 + m) % 26 + 1) % 26, rfl, rfl, by decide, (by rw [eix]; exact atI_nat (let_at hmod2)), ?_⟩
        refine ⟨_, _, rfl, rfl, ?_, ?_⟩
        · rw [ecut, hl8]
          exact Nat.le_trans (show l.length + 1 ≤ 100 by omega) (by decide)
        · rw [ecut, hsucc]
          exact ⟨rfl, m + 1, _, rfl, by omega, fun h => by have := next hmem; omega, fun j hj => by
            rcases Nat.lt_succ_iff_lt_or_eq.mp hj with q | q
            · exact hb j q
            · rw [q]; exact hmem⟩
      · have hno : rot l i0 m ∉ ts := fun q => z1 (decide_eq_true q)
        refine ⟨_, rfl, _, rfl, b3, _, rfl, .inl (SqL.of h36), rfl, fr, _, rfl, ?_⟩
        rw [in_str]
        refine ite2 (fun z2 => ?_) (fun z2 => ?_)
        · have hin := of_decide_eq_true z2
          have hmem : rot l i0 m ∈ ts ++ RES := List.mem_append.mpr (.inr hin)
          refine ⟨_, rfl, _, rfl, _, rfl, rot l i0 m, rfl, hr1, ?_⟩
          refine ⟨_, rfl, _, rfl, ⟨_, rfl⟩, _, rfl, _, rfl, rot l i0 m, -1, _, rfl, rfl, hr1, hlast, LET, _, _, [], rfl, rfl, let_index _ hmod, _, _, rfl, rfl, _, _, rfl, rfl, (by show (0 : Int) < 26; decide), LET, _, 97 + ((i0 + m) % 26 + 1) % 26, rfl, rfl, by decide, (by rw [eix]; exact atI_nat (let_at hmod2)), ?_⟩
          refine ⟨_, _, rfl, rfl, ?_, ?_⟩
          · rw [ecut, hl8]
            exact Nat.le_trans (show l.length + 1 ≤ 100 by omega) (by decide)
          · rw [ecut, hsucc]
            exact ⟨rfl, m + 1, _, rfl, by omega, fun h => by have := next hmem; omega, fun j hj => by
              rcases Nat.lt_succ_iff_lt_or_eq.mp hj with q | q
              · exact hb j q
              · rw [q]; exact hmem⟩
        · have hno2 : rot l i0 m ∉ RES := fun q => z2 (decide_eq_true q)
          exact ⟨rfl, stop hno hno2⟩
    · rintro σ' H' ⟨rfl, m, x6, rfl, hm, hf, hb⟩
      have hm26 : m < 26 := by
        by_cases e : m = 26
        · subst e
          exact (rot_free (bs := ts ++ RES) (by rw [List.length_append]; show ts.length + 16 ≤ 25; omega) hb).elim
        · omega
      obtain ⟨a, b⟩ := hf hm26
      refine ⟨_, rfl, ?_⟩
      exact k _ _ ⟨rot_word i0 m hl7 hll, b⟩ a S6 (kA.trans k6)
theorem ok_kinds {f fK : Addr} {fd fdK : FuncData} (F : Fun K "_law_kinds" "_law_kinds" s_l_kinds f fd) (g : Bi mg) (FK : Def P w K mg base CX0 3 "_law_kind" ["_law_source_here", "_law_taken"] spKind fK fdK) : FnOk P w K mg base CX0 4 f fd ["_law_source_here", "_law_many"] spKinds := by
  obtain ⟨GK, mK, _, bK⟩ := id FK
  refine F.ok sc_l_kinds (fun vs H Q E h => ?_) (fun cdv A outer s H vs Q E hr h => ?_)
  · obtain ⟨_, _, _, rfl, _⟩ := h
    rfl
  · obtain ⟨p, c, n, rfl, S0, hn, k⟩ := h
    have hrK : Room 3 _ := hr.mono (by decide)
    refine ⟨_, (pss_cons (ps_set (i := 2) sc_l_kinds.nd rfl (Or.inl rfl) (pe_lst pa_nil))
      (pss_cons (ps_for PassesOwn.never rfl (pi_range1 rfl g.range (pa_cons (pv 1) pa_nil)) (pg_name (i := 3) sc_l_kinds.nd rfl (Or.inl rfl)) (pss_one (ps_expr (pe_bm PySem.F.plainAttrs_list PySem.F.slot_list_append PySem.F.type_list_append mt_append (pv 2) (pa_cons (pe_call GK hrK rfl mK FK.kp bK .nil pass0 (pa_cons (pv 0) (pa_cons (pv 2) pa_nil))) pa_nil)))))
      (pss_one (ps_ret (pv 2))))), ?_⟩
    refine ⟨Nat.zero_le _, fun q hq => ?_⟩
    have s1 : Same H (upd H q (.lst [])) := Same.new hq
    have h1 : (upd H q (.lst [])) q = some (.lst []) := upd_same
    have nqp : q ≠ p := S0.new_p hq
    have nqc : q ≠ c := S0.new_c hq
    generalize upd H q (.lst []) = H1 at s1 h1
    refine ⟨_, rfl, _, rfl, by omega, by omega, ?_⟩
    refine for_range (lo := 0) (n := ((n : Int)).toNat) (fun i σ' H' => ∃ (ks : List Str) (x3 : Option V), σ' = [some (.ref p), some (.int n), some (.ref q), x3] ∧ H' q = some (.lst (ks.map V.str)) ∧ ks.length = i ∧ ks.Nodup ∧ (∀ z ∈ ks, Kind z) ∧ Src H' p c ∧ Kp p H H')
      ⟨[], _, rfl, h1, rfl, List.nodup_nil, (fun _ h => nomatch h), S0.same s1, Kp.of s1⟩ ?_ ?_
    · rintro i σ' H' hi ⟨ks, x3, rfl, hq', hl, hnd, hkd, S', k'⟩
      refine ⟨_, rfl, .inl ⟨rfl, _, SqL.of hq'⟩, _, rfl, _, rfl, p, c, q, ks, rfl, S', hq', by omega, nqp, fun z H2 hz hzn S2 k2 => ?_⟩
      have hq2 := k2 _ _ hq' nqp
      refine ⟨q, _, _, rfl, rfl, hq2, ?_, ?_⟩
      · rw [List.length_map]
        exact Nat.lt_of_le_of_lt (show ks.length ≤ 100 by omega) (by decide)
      have kq : ∀ b o, H2 b = some o → b ≠ q → (upd H2 q (.lst (ks.map V.str ++ [.str z]))) b = some o := fun b o e n => by rw [upd_ne n]; exact e
      refine ⟨ks ++ [z], _, rfl, ?_, ?_, ?_, fun y hy => ?_, S2.keep (fun b o hb e => kq b o e (by rcases hb with rfl | rfl; exact nqp.symm; exact nqc.symm)), fun b o e n => kq _ _ (k2 _ _ (k' b o e n) n) (ne_of_none e hq)⟩
      · rw [upd_same, List.map_append]
        rfl
      · rw [List.length_append, hl]
        rfl
      · exact List.nodup_append.mpr ⟨hnd, List.pairwise_singleton _ _, fun a ha b hb e => by rw [List.mem_singleton.mp hb] at e; exact hzn (e ▸ ha)⟩
      · rcases List.mem_append.mp hy with e | e
        · exact hkd y e
        · rw [List.mem_singleton.mp e]
          exact hz
    · rintro σ' H' ⟨ks, x3, rfl, hq', hl, hnd, hkd, S', k'⟩
      exact ⟨_, rfl, k q H' ks hq hq' (by omega) hnd hkd S' k'⟩
end
end Cs

set_option Elab.async false
set_option linter.all false
set_option maxRecDepth 100000
set_option maxHeartbeats 8000000
set_option pp.maxSteps 500
/-! Doors: the law's helpers. -/
namespace Dr
open PySem L2 Cs
def lineHas (z : Str) (ws : List Str) : Bool := hasW (Txt.split z " ") ws
section
variable {P : Program} {w : World} {K : PySem.W.Frag} {mg : Str → Option Value} {base : Heap}
def spHas : Sp := fun vs H Q _ => ∃ (a b : Addr) (zs ws : List Str), vs = [.ref a, .ref b] ∧ H a = some (.lst (zs.map V.str)) ∧ H b = some (.lst (ws.map V.str)) ∧ (∀ z ∈ zs, z.length + 2 ≤ sizeLine) ∧ ∀ H', Same H H' → Q (.bl (zs.any fun z => lineHas z ws)) H'
theorem ok_has {f : Addr} {fd : FuncData} (F : Fun K "_law_has" "_law_has" s_l_has f fd) (g : Bi mg) : FnOk P w K mg base CX0 1 f fd ["_law_lines_here", "_law_words"] spHas := by
  refine F.ok sc_l_has (fun vs H Q E h => ?_) (fun cdv A outer s H vs Q E hr h => ?_)
  · obtain ⟨_, _, _, _, rfl, _⟩ := h
    rfl
  · obtain ⟨a, b, zs, ws, rfl, ha, hb, hz, k⟩ := h
    refine ⟨_, (pss_cons (ps_for PassesOwn.never rfl (pi_list (pv 0)) (pg_name (i := 2) sc_l_has.nd rfl (Or.inl rfl)) (pss_one (ps_for PassesOwn.never rfl (pi_list (pe_split (pv 2) pe_str)) (pg_name (i := 3) sc_l_has.nd rfl (Or.inl rfl)) (pss_one (ps_if (pt_cmpR op_in_seq (pv 3) (pv 1) (by rfl)) (pss_one (ps_ret pe_bl)) pss_nil)))))
      (pss_one (ps_ret pe_bl))), ?_⟩
    refine ⟨_, rfl, a, rfl, ⟨_, SqL.of ha⟩, for_list (K := K) (a := a) (xs := zs.map V.str) (fun i σ' H' => (∃ x2 x3 : Option V, σ' = [some (.ref a), some (.ref b), x2, x3]) ∧ Same H H' ∧ ((zs.take i).any fun z => lineHas z ws) = false) ⟨⟨_, _, rfl⟩, Same.refl _, rfl⟩ (fun i σ' H' _ h => SqL.of (h.2.1 _ _ ha)) ?_ ?_⟩
    · rintro i x σ' H' hx ⟨⟨x2, x3, rfl⟩, s', hn⟩
      rw [List.getElem?_map] at hx
      cases e : zs[i]? with
      | none => rw [e] at hx; cases hx
      | some z =>
      rw [e] at hx
      obtain rfl := Option.some.inj hx
      have hzm := List.mem_of_getElem? e
      refine ⟨_, rfl, ⟨z, rfl⟩, z, " ", rfl, rfl, rfl, hz z hzm, fun q hq => ?_⟩
      have sq := s'.trans (Same.new (o := .lst ((Txt.split z " ").map V.str)) hq)
      have eq := upd_same (H := H') (a := q) (o := .lst ((Txt.split z " ").map V.str))
      generalize upd H' q (.lst ((Txt.split z " ").map V.str)) = H1 at sq eq ⊢
      refine ⟨q, rfl, ⟨_, SqL.of eq⟩, for_list (K := K) (a := q) (xs := (Txt.split z " ").map V.str) (fun j σ' H2 => (∃ x3 : Option V, σ' = [some (.ref a), some (.ref b), some (.str z), x3]) ∧ Same H1 H2 ∧ hasW ((Txt.split z " ").take j) ws = false) ⟨⟨_, rfl⟩, Same.refl _, rfl⟩ (fun j σ' H2 _ h => SqL.of (h.2.1 _ _ eq)) ?_ ?_⟩
      · rintro j y σ' H2 hy ⟨⟨x3, rfl⟩, s2, hm⟩
        rw [List.getElem?_map] at hy
        cases e2 : (Txt.split z " ")[j]? with
        | none => rw [e2] at hy; cases hy
        | some t =>
        rw [e2] at hy
        obtain rfl := Option.some.inj hy
        refine ⟨_, rfl, _, rfl, b, _, rfl, .inl (SqL.of (s2 _ _ (sq _ _ hb))), rfl, flatS _, _, rfl, ?_⟩
        show if inV (.str t) (ws.map V.str) = true then _ else _
        rw [inV_strs]
        by_cases c : t ∈ ws
        · rw [decide_eq_true c]
          refine iteT ?_
          have q := k _ (sq.trans s2)
          rw [show (zs.any fun z => lineHas z ws) = true from List.any_eq_true.mpr ⟨z, hzm, hasW_iff.mpr ⟨t, List.mem_of_getElem? e2, c⟩⟩] at q
          exact q
        · rw [decide_eq_false c]
          refine iteF ⟨⟨_, rfl⟩, s2, ?_⟩
          unfold hasW at hm ⊢
          rw [List.take_succ, e2, List.any_append, hm]
          show (false || (decide (t ∈ ws) || false)) = false
          rw [decide_eq_false c]
          rfl
      · rintro σ' H2 ⟨⟨x3, rfl⟩, s2, hm⟩
        rw [List.length_map, List.take_length] at hm
        refine ⟨⟨_, _, rfl⟩, sq.trans s2, ?_⟩
        rw [List.take_succ, e, List.any_append, hn]
        show (false || (lineHas z ws || false)) = false
        rw [show lineHas z ws = false from hm]
        rfl
    · rintro σ' H' ⟨⟨x2, x3, rfl⟩, s', hn⟩
      rw [List.length_map, List.take_length] at hn
      have q := k _ s'
      rw [hn] at q
      exact q
def spSome : Sp := fun vs H Q _ => ∃ (p c a : Addr) (ks : List Str) (m : Nat), vs = [.ref p, .ref a, .int m] ∧ Src H p c ∧ H a = some (.lst (ks.map V.str)) ∧ a ≠ p ∧ GoodKs ks ∧ 1 ≤ m ∧ m ≤ 9 ∧ ∀ (q : Addr) (zs : List Str) (H' : Hp), H q = none → Src H' p c → Kp p H H' → H' q = some (.lst (zs.map V.str)) → GoodKs zs → (∀ z ∈ zs, z ∈ ks) → zs.length ≤ m → Q (.ref q) H'
theorem ok_some {f fD : Addr} {fd fdD : FuncData} (F : Fun K "_law_some" "_law_some" s_l_some f fd) (g : Bi mg) (FD : Def P w K mg base CX0 2 "_law_draw" ["_law_source_here", "_law_size"] spDraw fD fdD) : FnOk P w K mg base CX0 3 f fd ["_law_source_here", "_law_things", "_law_most"] spSome := by
  obtain ⟨GD, mD, _, bD⟩ := id FD
  refine F.ok sc_l_some (fun vs H Q E h => ?_) (fun cdv A outer s H vs Q E hr h => ?_)
  · obtain ⟨_, _, _, _, _, rfl, _⟩ := h
    rfl
  · obtain ⟨p, c, a, ks, m, rfl, S0, ha, nap, hk, hm, hm9, k⟩ := h
    have hrD : Room 2 _ := hr
    refine ⟨_, (pss_cons (ps_set (i := 3) sc_l_some.nd rfl (Or.inl rfl) (pe_call GD hrD rfl mD FD.kp bD .nil pass0 (pa_cons (pv 0) (pa_cons (pe_callB call_len (by rfl) g.len PySem.boot_len (pa_cons (pv 1) pa_nil)) pa_nil))))
      (pss_one (ps_ret (pe_slice sl_list (pe_op op_cat (pe_slice sl_list (pv 1) (po_some (pv 3)) po_none) (pe_slice sl_list (pv 1) po_none (po_some (pv 3)))) po_none (po_some (pe_op op_add pe_int (pe_call GD hrD rfl mD FD.kp bD .nil pass0 (pa_cons (pv 0) (pa_cons (pv 2) pa_nil))))))))), ?_⟩
    have k1l : 1 ≤ ks.length := by cases ks with
      | nil => exact absurd rfl hk.ne
      | cons _ _ => rw [List.length_cons]; omega
    have few := hk.few
    refine ⟨_, rfl, _, rfl, _, _, rfl, .inl ⟨_, SqL.of ha, rfl⟩, p, c, _, rfl, S0, by rw [List.length_map]; omega, by rw [List.length_map]; exact Int.lt_of_le_of_lt (show ((ks.length : Nat) : Int) ≤ 5 by omega) (by decide), fun v H1 v0 v1 S1 k1 => ?_⟩
    obtain ⟨v', rfl⟩ := Int.eq_ofNat_of_zero_le v0
    have ha1 := k1 _ _ ha nap
    refine ⟨_, rfl, _, rfl, _, rfl, a, _, rfl, SqL.of ha1, fun q1 hq1 => ?_⟩
    rw [cut_rest]
    have s1 := Same.new (o := .lst ((ks.drop v').map V.str)) hq1
    have e1 := upd_same (H := H1) (a := q1) (o := .lst ((ks.drop v').map V.str))
    generalize upd H1 q1 (.lst ((ks.drop v').map V.str)) = H2 at s1 e1 ⊢
    refine ⟨_, rfl, _, rfl, _, rfl, a, _, rfl, SqL.of (s1 _ _ ha1), fun q2 hq2 => ?_⟩
    rw [cut_first]
    have s2 := Same.new (o := .lst ((ks.take v').map V.str)) hq2
    have e2 := upd_same (H := H2) (a := q2) (o := .lst ((ks.take v').map V.str))
    have e1 := s2 _ _ e1
    generalize upd H2 q2 (.lst ((ks.take v').map V.str)) = H3 at s2 e1 e2 ⊢
    refine ⟨q1, q2, _, _, rfl, rfl, e1, e2, by rw [List.length_map, List.length_map, List.length_drop, List.length_take]; exact Nat.le_trans (show _ ≤ 10 by omega) (by decide), fun q3 hq3 => ?_⟩
    rw [← List.map_append]
    have s3 := Same.new (o := .lst ((ks.drop v' ++ ks.take v').map V.str)) hq3
    have e3 := upd_same (H := H3) (a := q3) (o := .lst ((ks.drop v' ++ ks.take v').map V.str))
    have S3 := S1.same ((s1.trans s2).trans s3)
    have n3 : q3 ≠ p := (S1.same (s1.trans s2)).new_p hq3
    have k3 := k1.trans (Kp.of ((s1.trans s2).trans s3))
    generalize upd H3 q3 (.lst ((ks.drop v' ++ ks.take v').map V.str)) = H4 at s3 e3 S3 k3 ⊢
    refine ⟨_, rfl, _, rfl, p, c, m, rfl, S3, by omega, Int.lt_of_le_of_lt (show (m : Int) ≤ 9 by omega) (by decide), fun v2 H5 v20 v21 S5 k5 => ?_⟩
    obtain ⟨u, rfl⟩ := Int.eq_ofNat_of_zero_le v20
    refine ⟨_, _, rfl, rfl, _, rfl, q3, _, rfl, SqL.of (k5 _ _ e3 n3), fun q4 hq4 => ?_⟩
    rw [show (1 : Int) + (u : Nat) = ((1 + u : Nat) : Int) by omega, cut_first]
    have s4 := Same.new (o := .lst (((ks.drop v' ++ ks.take v').take (1 + u)).map V.str)) hq4
    have n4 : q4 ≠ p := S5.new_p hq4
    have perm : (ks.drop v' ++ ks.take v').Perm ks := by
      have q := List.perm_append_comm (l₁ := ks.drop v') (l₂ := ks.take v')
      rw [List.take_append_drop] at q
      exact q
    have hsub : ∀ z ∈ (ks.drop v' ++ ks.take v').take (1 + u), z ∈ ks := fun z hz => perm.mem_iff.mp (List.mem_of_mem_take hz)
    have hq0 : H q4 = none := by
      cases e : H q4 with
      | none => rfl
      | some o => rw [k5 _ _ (k3 _ _ e n4) n4] at hq4; cases hq4
    refine k q4 _ _ hq0 (S5.same s4) ((k3.trans k5).trans (Kp.of s4)) upd_same ⟨?_, ?_, fun z hz => hk.kd z (hsub z hz), ?_⟩ hsub ?_
    · intro e
      have := congrArg List.length e
      rw [List.length_take, perm.length_eq, List.length_nil] at this
      omega
    · exact (perm.nodup_iff.mpr hk.nd).sublist (List.take_sublist _ _)
    · rw [List.length_take, perm.length_eq]; omega
    · rw [List.length_take]; omega
end
end Dr

set_option Elab.async false
set_option linter.all false
set_option maxRecDepth 100000
set_option maxHeartbeats 8000000
set_option pp.maxSteps 500
/-! Doors: the law's tests. -/
namespace Dr
open PySem L2 Cs
theorem joinS_consD (sep x y : Str) (r : List Str) : Str.join sep (x :: y :: r) = x ++ sep ++ Str.join sep (y :: r) := rfl
theorem joinA (s : Str) : ∀ {l m : List Str}, l ≠ [] → m ≠ [] → Str.join s (l ++ m) = Str.join s l ++ s ++ Str.join s m
  | [], _, h, _ => absurd rfl h
  | [x], y :: r, _, _ => rfl
  | [x], [], _, h => absurd rfl h
  | x :: y :: l, m, _, h => by
    show Str.join s (x :: y :: (l ++ m)) = _
    rw [joinS_consD, joinS_consD, show y :: (l ++ m) = (y :: l) ++ m from rfl, joinA s (by simp) h]
    simp only [PySem.Str.append_assoc]
theorem sepJ (b : Str) : ∀ ks : List Str, Str.join " " (sepB b ks) = Str.join ((" " : String) ++ b ++ (" " : String)) ks
  | [] => rfl
  | [x] => rfl
  | x :: y :: r => by
    have ih := sepJ b (y :: r)
    obtain ⟨t, e⟩ := sepB_cons b y r
    show Str.join " " (x :: b :: sepB b (y :: r)) = _
    rw [e] at ih ⊢
    rw [joinS_consD, joinS_consD, ih, joinS_consD]
    simp only [PySem.Str.append_assoc]
theorem sepB_ne {b : Str} {ks : List Str} (h : ks ≠ []) : sepB b ks ≠ [] := by
  cases ks with
  | nil => exact absurd rfl h
  | cons x r =>
    obtain ⟨t, e⟩ := sepB_cons b x r
    rw [e]
    simp
/-- a test's text -/
def testS (t : TestD) : Str := Txt.join " " (tokT t)
theorem row_text {ks : List Str} (h : ks ≠ []) : (("row " : String) : Str) ++ Txt.join " or " ks = testS (.row ks) := by
  unfold testS
  rw [TL.join_eq, TL.join_eq]
  show _ = Str.join " " ([(("row" : String) : Str)] ++ sepB "or" ks)
  rw [joinA " " (by simp) (sepB_ne h), sepJ]
  rw [show ((" " : String) : Str) ++ (("or" : String) : Str) ++ ((" " : String) : Str) = " or " by decide +kernel]
  rw [show (("row " : String) : Str) = (("row" : String) : Str) ++ ((" " : String) : Str) by decide +kernel]
  rfl
theorem sum_text {o : Bool} {ks : List Str} {sg : Str} {n : Int} (h : ks ≠ []) : (if o = true then (("other " : String) : Str) ++ (Txt.join " + " ks ++ " " ++ sg ++ " " ++ ntS n) else Txt.join " + " ks ++ " " ++ sg ++ " " ++ ntS n) = testS (.sum o ks sg n) := by
  have e : Txt.join " + " ks ++ " " ++ sg ++ " " ++ ntS n = Str.join " " (sepB "+" ks ++ [sg, ntS n]) := by
    rw [TL.join_eq, joinA " " (sepB_ne h) (by simp), sepJ]
    rw [show ((" " : String) : Str) ++ (("+" : String) : Str) ++ ((" " : String) : Str) = " + " by decide +kernel]
    rw [joinS_consD]
    simp only [PySem.Str.append_assoc]
    rfl
  unfold testS
  rw [e, TL.join_eq]
  cases o with
  | false => rfl
  | true =>
    show _ = Str.join " " ([(("other" : String) : Str)] ++ (sepB "+" ks ++ [sg, ntS n]))
    rw [joinA " " (l := [(("other" : String) : Str)]) (by simp) (by simp)]
    rw [show (("other " : String) : Str) = (("other" : String) : Str) ++ ((" " : String) : Str) by decide +kernel]
    rfl
theorem kind_len {z : Str} (h : kindB z = true) : z.length ≤ 8 := by
  unfold kindB at h
  rw [Bool.and_eq_true] at h
  exact (word_of h.1).2.1
theorem kinds_sumD {ks : List Str} (h : GoodKs ks) : (ks.map (·.length)).sum ≤ 40 := by
  have := sumS_leD (B := 8) (ts := ks) fun z m => kind_len (h.kd z m)
  have := h.few
  omega
theorem join3 {ks : List Str} (sep : Str) (hs : sep.length ≤ 6) (h : GoodKs ks) : (Txt.join sep ks).length ≤ 70 := by
  have h1 := joinS_lenD sep ks
  have h2 := kinds_sumD h
  have h3 := h.few
  rw [TL.join_eq]
  have : ks.length * sep.length ≤ 5 * 6 := Nat.mul_le_mul h3 hs
  omega
theorem at_sign {v : Int} (h0 : 0 ≤ v) (h6 : v < 6) : ∃ sg ∈ SIGNS, atI (SIGNS.map V.str) v = some (.str sg) ∧ sg.length ≤ 2 := by
  obtain ⟨d, rfl⟩ := Int.eq_ofNat_of_zero_le h0
  have key : ∀ d : Nat, d < 6 → ∃ sg ∈ SIGNS, SIGNS[d]? = some sg ∧ sg.length ≤ 2 := by decide +kernel
  obtain ⟨sg, m, e, l⟩ := key d (by omega)
  exact ⟨sg, m, atI_nat (by rw [List.getElem?_map, e]; rfl), l⟩
section
variable {P : Program} {w : World} {K : PySem.W.Frag} {mg : Str → Option Value} {base : Heap}
def spTest : Sp := fun vs H Q _ => ∃ (p c a r : Addr) (ks rs : List Str) (cr : Bool), vs = [.ref p, .ref a, .ref r, .bl cr] ∧ Src H p c ∧ H a = some (.lst (ks.map V.str)) ∧ a ≠ p ∧ H r = some (.lst (rs.map V.str)) ∧ r ≠ p ∧ GoodKs ks ∧ GoodKs rs ∧
  ∀ t H', GoodT t → (∀ z ∈ kindsT t, z ∈ ks ∨ z ∈ rs) → (asks t = true → cr = true) → Src H' p c → Kp p H H' → Q (.str (testS t)) H'
theorem ok_ltest {f fD fSo : Addr} {fd fdD fdSo : FuncData} (F : Fun K "_law_test" "_law_test" s_l_test f fd) (g : Bi mg) (FD : Def P w K mg base CX0 2 "_law_draw" ["_law_source_here", "_law_size"] spDraw fD fdD) (FSo : Def P w K mg base CX0 3 "_law_some" ["_law_source_here", "_law_things", "_law_most"] spSome fSo fdSo) : FnOk P w K mg base CX0 4 f fd ["_law_source_here", "_law_kinds_here", "_law_ruled", "_law_crossing"] spTest := by
  obtain ⟨GD, mD, _, bD⟩ := id FD
  obtain ⟨GSo, mSo, _, bSo⟩ := id FSo
  refine F.ok sc_l_test (fun vs H Q E h => ?_) (fun cdv A outer s H vs Q E hr h => ?_)
  · obtain ⟨_, _, _, _, _, _, _, rfl, _⟩ := h
    rfl
  · obtain ⟨p, c, a, r, ks, rs, cr, rfl, S0, ha, nap, hra, nrp, hk, hrk, k⟩ := h
    have hrSo : Room 3 _ := hr
    have hrD : Room 2 _ := hr.mono (by decide)
    have big : 8000 ≤ sizeLine := by decide
    refine ⟨_, (pss_cons (ps_if (pt_cmpR op_eq (pe_call GD hrD rfl mD FD.kp bD .nil pass0 (pa_cons (pv 0) (pa_cons pe_int pa_nil))) pe_int (nomark _)) (pss_one (ps_ret (pe_op op_add_str pe_str (pe_join pe_str (pe_call GSo hrSo rfl mSo FSo.kp bSo .nil pass0 (pa_cons (pv 0) (pa_cons (pv 1) (pa_cons pe_int pa_nil)))))))) pss_nil)
      (pss_cons (ps_set (i := 4) sc_l_test.nd rfl (Or.inl rfl) (pe_ix ix_list (pe_lst (pa_cons pe_str (pa_cons pe_str (pa_cons pe_str (pa_cons pe_str (pa_cons pe_str (pa_cons pe_str pa_nil))))))) (pe_call GD hrD rfl mD FD.kp bD .nil pass0 (pa_cons (pv 0) (pa_cons pe_int pa_nil))) (fun _ _ => rfl)))
      (pss_cons (ps_set (i := 5) sc_l_test.nd rfl (Or.inl rfl) (pe_op op_add_str (pe_op op_add_str (pe_op op_add_str (pe_op op_add_str (pe_join pe_str (pe_call GSo hrSo rfl mSo FSo.kp bSo .nil pass0 (pa_cons (pv 0) (pa_cons (pv 2) (pa_cons pe_int pa_nil))))) pe_str) (pv 4)) pe_str) (pe_callTy call_str_int (by rfl) g.str (by decide +kernel) (pa_cons (pe_call GD hrD rfl mD FD.kp bD .nil pass0 (pa_cons (pv 0) (pa_cons pe_int pa_nil))) pa_nil))))
      (pss_one (ps_ret (pe_ifExp (PW.pt (pw_and (pt_val (pv 3)) (pw_and1 (pt_cmpR op_eq (pe_call GD hrD rfl mD FD.kp bD .nil pass0 (pa_cons (pv 0) (pa_cons pe_int pa_nil))) pe_int (nomark _))))) (pe_op op_add_str pe_str (pv 5)) (pv 5))))))), ?_⟩
    refine ⟨_, rfl, p, c, 4, rfl, S0, by decide, by decide, fun v H1 v0 v1 S1 k1 => ⟨rfl, _, rfl, ?_⟩⟩
    by_cases c1 : V.int v = V.int 1
    · rw [decide_eq_true c1]
      refine iteT ⟨⟨_, rfl⟩, _, rfl, _, rfl, p, c, a, ks, 4, rfl, S1, k1 _ _ ha nap, nap, hk, by decide, by decide, fun q zs H2 hq S2 k2 h2 gz hz hl => ?_⟩
      have jl := join3 " or " (by decide +kernel) gz
      have zl := gz.few
      have zs2 := kinds_sumD gz
      refine ⟨" or ", q, zs, rfl, rfl, .inl (SqL.of h2), ?_, ?_⟩
      · rw [show ((" or " : String) : Str).length = 4 from rfl]; omega
      refine ⟨_, _, rfl, rfl, ?_, ?_⟩
      · rw [show (("row " : String) : Str).length = 4 from rfl]; omega
      rw [row_text gz.ne]
      exact k (.row zs) H2 gz (fun z m => .inl (hz z m)) (fun e => by cases e) S2 (k1.trans k2)
    rw [decide_eq_false c1]
    refine iteF ?_
    refine ⟨by show 6 ≤ sizeLine; decide, fun b hb => ?_⟩
    have sb := Same.new (o := .lst (SIGNS.map V.str)) hb
    have eb := upd_same (H := H1) (a := b) (o := .lst (SIGNS.map V.str))
    have Sb := S1.same sb
    have nbp : b ≠ p := S1.new_p hb
    have eU : upd H1 b (.lst (SIGNS.map V.str)) = upd H1 b (.lst [.str "<", .str "<=", .str "=", .str "!=", .str ">=", .str ">"]) := rfl
    rw [eU] at sb eb Sb
    generalize upd H1 b (.lst [.str "<", .str "<=", .str "=", .str "!=", .str ">=", .str ">"]) = H2 at sb eb Sb ⊢
    clear eU
    have k2 := k1.trans (Kp.of sb)
    refine ⟨_, rfl, p, c, 6, rfl, Sb, by decide, by decide, fun v2 H3 v20 v21 S3 k3 => ?_⟩
    obtain ⟨sg, hsg, hat, sgl⟩ := at_sign v20 v21
    have k13 := k2.trans k3
    refine ⟨b, _, v2, _, rfl, rfl, SqL.of (k3 _ _ eb nbp), hat, ?_⟩
    refine ⟨⟨_, rfl⟩, _, rfl, _, rfl, p, c, r, rs, 4, rfl, S3, k13 _ _ hra nrp, nrp, hrk, by decide, by decide, fun q zs H4 hq S4 k4 h4 gz hz hl => ?_⟩
    have jl := join3 " + " (by decide +kernel) gz
    have zl := gz.few
    have zs2 := kinds_sumD gz
    have l1 : ((" " : String) : Str).length = 1 := rfl
    refine ⟨" + ", q, zs, rfl, rfl, .inl (SqL.of h4), ?_, ?_⟩
    · rw [show ((" + " : String) : Str).length = 3 from rfl]; omega
    refine ⟨_, _, rfl, rfl, by rw [l1]; omega, _, rfl, ?_⟩
    refine ⟨_, _, rfl, rfl, by rw [strLen_append, l1]; omega, ?_⟩
    refine ⟨_, _, rfl, rfl, by rw [strLen_append, strLen_append, l1]; omega, ?_⟩
    refine ⟨_, rfl, p, c, 10, rfl, S4, by decide, by decide, fun n H5 n0 n1 S5 k5 => ?_⟩
    have n9 : n ≤ 9 := by omega
    have nl : (ntS n).length ≤ 20 := (dig_tok n0 n9).2.2
    refine ⟨n, rfl, ?_, ?_⟩
    · have : n.natAbs ≤ 9 := by omega
      exact Nat.lt_of_le_of_lt (show n.natAbs.log2 ≤ 9 from Nat.le_trans (Nat.log2_le_self _) this) (by decide)
    refine ⟨_, ntS n, rfl, rfl, by rw [strLen_append, strLen_append, strLen_append, l1]; omega, ?_⟩
    have k15 := (k13.trans k4).trans k5
    have fin : ∀ (o : Bool) (H' : Hp), (o = true → cr = true) → Src H' p c → Kp p H5 H' → Q (.str (testS (.sum o zs sg n))) H' := fun o H' ho S' k' => k (.sum o zs sg n) H' ⟨gz, hsg, n0, n9⟩ (fun z m => .inr (hz z m)) ho S' (k15.trans k')
    have tl : (Txt.join " + " zs ++ " " ++ sg ++ " " ++ ntS n).length ≤ 200 := by
      rw [strLen_append, strLen_append, strLen_append, strLen_append, l1]; omega
    have t0 := sum_text (o := false) (sg := sg) (n := n) gz.ne
    have t1 := sum_text (o := true) (sg := sg) (n := n) gz.ne
    generalize Txt.join " + " zs ++ " " ++ sg ++ " " ++ ntS n = tx at tl t0 t1 ⊢
    have q0 : ∀ H', Src H' p c → Kp p H5 H' → Q (.str tx) H' := fun H' S' k' => by
      have q := fin false H' (fun e => by cases e) S' k'
      rw [← t0] at q
      exact q
    cases cr with
    | false => exact ⟨_, rfl, _, rfl, iteF (iteF ⟨_, rfl, q0 H5 S5 (Kp.refl p H5)⟩)⟩
    | true =>
      refine ⟨_, rfl, _, rfl, iteT ⟨_, rfl, p, c, 2, rfl, S5, by decide, by decide, fun v3 H6 v30 v31 S6 k6 => ⟨rfl, _, rfl, ?_⟩⟩⟩
      by_cases c2 : V.int v3 = V.int 1
      · rw [decide_eq_true c2]
        refine iteT ⟨_, rfl, _, _, rfl, rfl, by rw [show (("other " : String) : Str).length = 6 from rfl]; omega, ?_⟩
        have q := fin true H6 (fun _ => rfl) S6 k6
        rw [← t1] at q
        exact q
      · rw [decide_eq_false c2]
        exact iteF ⟨_, rfl, q0 H6 S6 k6⟩
end
end Dr

set_option Elab.async false
set_option linter.all false
set_option maxRecDepth 100000
set_option maxHeartbeats 8000000
set_option pp.maxSteps 500
/-! Doors: the law's parts. -/
namespace Dr
open PySem L2 Cs
def partS (t : PartD) : Str := Txt.join " " (tokP t)
theorem kinds_text {w : Str} {ks : List Str} {af : Str} (h : ks ≠ []) : w ++ " " ++ Txt.join " or " ks ++ " -> " ++ af = partS (.kinds w ks af) := by
  unfold partS
  rw [TL.join_eq, TL.join_eq]
  show _ = Str.join " " ([w] ++ (sepB "or" ks ++ [(("->" : String) : Str), af]))
  rw [joinA " " (by simp) (by simp), joinA " " (sepB_ne h) (by simp), sepJ]
  rw [show ((" " : String) : Str) ++ (("or" : String) : Str) ++ ((" " : String) : Str) = " or " by decide +kernel]
  rw [show ((" -> " : String) : Str) = ((" " : String) : Str) ++ (("->" : String) : Str) ++ ((" " : String) : Str) by decide +kernel]
  rw [joinS_consD]
  simp only [PySem.Str.append_assoc]
  rfl
theorem kind_text (w k af : Str) : w ++ " " ++ k ++ " -> " ++ af = partS (.kind w k af) := by
  unfold partS
  rw [TL.join_eq]
  show _ = Str.join " " (w :: k :: (("->" : String) : Str) :: [af])
  rw [joinS_consD, joinS_consD, joinS_consD]
  rw [show ((" -> " : String) : Str) = ((" " : String) : Str) ++ (("->" : String) : Str) ++ ((" " : String) : Str) by decide +kernel]
  simp only [PySem.Str.append_assoc]
  rfl
theorem new_text (k : Str) : (("new " : String) : Str) ++ k = partS (.new k) := by
  unfold partS
  rw [TL.join_eq]
  show _ = Str.join " " ((("new" : String) : Str) :: [k])
  rw [show (("new " : String) : Str) = (("new" : String) : Str) ++ ((" " : String) : Str) by decide +kernel]
  rfl
theorem at_idx {zs : List Str} {v : Int} (h0 : 0 ≤ v) (h : v < (zs.length : Nat)) : ∃ z ∈ zs, atI (zs.map V.str) v = some (.str z) := by
  obtain ⟨d, rfl⟩ := Int.eq_ofNat_of_zero_le h0
  have hd : d < zs.length := by omega
  exact ⟨zs[d], List.getElem_mem hd, atI_nat (by rw [List.getElem?_map, List.getElem?_eq_getElem hd]; rfl)⟩
def PWORDS : List Str := ["new", "row", "one", "all", "give", "take", "join"]
section
variable {P : Program} {w : World} {K : PySem.W.Frag} {mg : Str → Option Value} {base : Heap}
def spPart : Sp := fun vs H Q _ => ∃ (p c a r : Addr) (ks rs : List Str) (wd : Str) (at_ : Int), vs = [.ref p, .ref a, .ref r, .str wd, .int at_] ∧ Src H p c ∧ H a = some (.lst (ks.map V.str)) ∧ a ≠ p ∧ H r = some (.lst (rs.map V.str)) ∧ r ≠ p ∧ GoodKs ks ∧ GoodKs rs ∧ wd ∈ PWORDS ∧
  ∀ t H', GoodP t → t.word = wd → (∀ z ∈ told t, z ∈ ks ∨ z ∈ rs ∨ z = (("gone" : String) : Str)) → Src H' p c → Kp p H H' → Q (.str (partS t)) H'
theorem ok_lpart {f fD fSo : Addr} {fd fdD fdSo : FuncData} (F : Fun K "_law_part" "_law_part" s_l_part f fd) (g : Bi mg) (FD : Def P w K mg base CX0 2 "_law_draw" ["_law_source_here", "_law_size"] spDraw fD fdD) (FSo : Def P w K mg base CX0 3 "_law_some" ["_law_source_here", "_law_things", "_law_most"] spSome fSo fdSo) : FnOk P w K mg base CX0 4 f fd ["_law_source_here", "_law_kinds_here", "_law_ruled", "_law_word_here", "_law_at_here"] spPart := by
  obtain ⟨GD, mD, _, bD⟩ := id FD
  obtain ⟨GSo, mSo, _, bSo⟩ := id FSo
  refine F.ok sc_l_part (fun vs H Q E h => ?_) (fun cdv A outer s H vs Q E hr h => ?_)
  · obtain ⟨_, _, _, _, _, _, _, _, rfl, _⟩ := h
    rfl
  · obtain ⟨p, c, a, r, ks, rs, wd, at_, rfl, S0, ha, nap, hra, nrp, hk, hrk, hwd, k⟩ := h
    have hrSo : Room 3 _ := hr
    have hrD : Room 2 _ := hr.mono (by decide)
    have big : 8000 ≤ sizeLine := by decide
    have few := hk.few
    have rfew := hrk.few
    have k1l : 1 ≤ ks.length := by cases ks with
      | nil => exact absurd rfl hk.ne
      | cons _ _ => rw [List.length_cons]; omega
    have r1l : 1 ≤ rs.length := by cases rs with
      | nil => exact absurd rfl hrk.ne
      | cons _ _ => rw [List.length_cons]; omega
    have small : ∀ n : Nat, n ≤ 9 → (n : Int) < 1329227995784915872903807060280344576 := fun n h => Int.lt_of_le_of_lt (show (n : Int) ≤ 9 by omega) (by decide)
    refine ⟨_, (pss_cons (ps_set (i := 5) sc_l_part.nd rfl (Or.inl rfl) (pe_ix ix_list (pe_op op_cat (pv 1) (pe_lst (pa_cons pe_str pa_nil))) (pe_call GD hrD rfl mD FD.kp bD .nil pass0 (pa_cons (pv 0) (pa_cons (pe_op op_add (pe_callB call_len (by rfl) g.len PySem.boot_len (pa_cons (pv 1) pa_nil)) pe_int) pa_nil))) (fun _ _ => rfl)))
      (pss_cons (ps_set (i := 6) sc_l_part.nd rfl (Or.inl rfl) (pe_ix ix_list (pv 1) (pe_call GD hrD rfl mD FD.kp bD .nil pass0 (pa_cons (pv 0) (pa_cons (pe_callB call_len (by rfl) g.len PySem.boot_len (pa_cons (pv 1) pa_nil)) pa_nil))) (fun _ _ => rfl)))
      (pss_cons (ps_set (i := 7) sc_l_part.nd rfl (Or.inl rfl) (pe_join pe_str (pe_call GSo hrSo rfl mSo FSo.kp bSo .nil pass0 (pa_cons (pv 0) (pa_cons (pv 1) (pa_cons pe_int pa_nil))))))
      (pss_cons (ps_if (pt_cmpR op_eq (pv 3) pe_str (nomark _)) (pss_one (ps_ret (pe_op op_add_str (pe_op op_add_str (pe_op op_add_str pe_str (pv 7)) pe_str) (pv 5)))) pss_nil)
      (pss_cons (ps_if (PW.pt (pw_or (pt_cmpR op_eq (pv 3) pe_str (nomark _)) (pw_or1 (PW.pt (pw_and (pt_cmpR op_eq (pv 3) pe_str (nomark _)) (pw_and1 (pt_cmpR op_gt (pv 4) pe_int (nomark _)))))))) (pss_one (ps_ret (pe_op op_add_str (pe_op op_add_str (pe_op op_add_str (pe_op op_add_str (pv 3) pe_str) (pe_ix ix_list (pv 2) (pe_call GD hrD rfl mD FD.kp bD .nil pass0 (pa_cons (pv 0) (pa_cons (pe_callB call_len (by rfl) g.len PySem.boot_len (pa_cons (pv 2) pa_nil)) pa_nil))) (fun _ _ => rfl))) pe_str) (pv 5)))) pss_nil)
      (pss_cons (ps_if (pt_cmpR op_eq (pv 3) pe_str (nomark _)) (pss_one (ps_ret (pe_op op_add_str (pe_op op_add_str (pe_op op_add_str pe_str (pv 6)) pe_str) (pv 5)))) pss_nil)
      (pss_cons (ps_if (pt_cmpR op_eq (pv 3) pe_str (nomark _)) (pss_one (ps_ret (pe_op op_add_str pe_str (pv 6)))) pss_nil)
      (pss_cons (ps_if (pt_cmpR op_eq (pv 3) pe_str (nomark _)) (pss_one (ps_ret (pe_op op_add_str (pe_op op_add_str (pe_op op_add_str pe_str (pv 7)) pe_str) (pv 6)))) pss_nil)
      (pss_one (ps_ret (pe_ifExp (pt_cmpR op_eq (pv 3) pe_str (nomark _)) (pe_op op_add_str (pe_op op_add_str (pe_op op_add_str pe_str (pv 6)) pe_str) (pe_ix ix_list (pv 1) (pe_call GD hrD rfl mD FD.kp bD .nil pass0 (pa_cons (pv 0) (pa_cons (pe_callB call_len (by rfl) g.len PySem.boot_len (pa_cons (pv 1) pa_nil)) pa_nil))) (fun _ _ => rfl))) pe_str))))))))))), ?_⟩
    -- after
    refine ⟨_, rfl, by show 1 ≤ sizeLine; decide, fun b hb => ?_⟩
    have s1 := Same.new (o := .lst [.str "gone"]) hb
    have e1 := upd_same (H := H) (a := b) (o := .lst [.str "gone"])
    generalize upd H b (.lst [.str "gone"]) = H1 at s1 e1 ⊢
    refine ⟨a, b, _, _, rfl, rfl, s1 _ _ ha, e1, by rw [List.length_map]; show ks.length + 1 ≤ _; omega, fun b2 hb2 => ?_⟩
    have eA : ks.map V.str ++ [V.str "gone"] = (ks ++ [(("gone" : String) : Str)]).map V.str := by rw [List.map_append]; rfl
    rw [eA]
    have s2 := s1.trans (Same.new (o := .lst ((ks ++ [(("gone" : String) : Str)]).map V.str)) hb2)
    have e2 := upd_same (H := H1) (a := b2) (o := .lst ((ks ++ [(("gone" : String) : Str)]).map V.str))
    have S2 := S0.same s2
    have n2 : b2 ≠ p := (S0.same s1).new_p hb2
    generalize upd H1 b2 (.lst ((ks ++ [(("gone" : String) : Str)]).map V.str)) = H2 at s2 e2 S2 ⊢
    have kp2 := Kp.of (p := p) s2
    refine ⟨_, rfl, _, rfl, _, _, rfl, .inl ⟨_, SqL.of (s2 _ _ ha), rfl⟩, _, _, rfl, rfl, p, c, _, rfl, S2, by omega, by rw [List.length_map]; exact small (ks.length + 1) (by omega), fun v H3 v0 v1 S3 k3 => ?_⟩
    obtain ⟨af, haf, hat⟩ := at_idx (zs := ks ++ [(("gone" : String) : Str)]) v0 (by rw [List.length_append]; rw [List.length_map] at v1; exact v1)
    have hAft : Aft af ∧ (af ∈ ks ∨ af = (("gone" : String) : Str)) := by
      rcases List.mem_append.mp haf with e | e
      · exact ⟨.inl (hk.kd af e), .inl e⟩
      · exact ⟨.inr (List.mem_singleton.mp e), .inr (List.mem_singleton.mp e)⟩
    have afl : af.length ≤ 8 := by
      rcases hAft.1 with e | e
      · exact kind_len e
      · rw [e]; decide +kernel
    refine ⟨b2, _, v, _, rfl, rfl, SqL.of (k3 _ _ e2 n2), hat, ?_⟩
    have k13 := kp2.trans k3
    -- one
    refine ⟨_, rfl, _, rfl, _, rfl, _, _, rfl, .inl ⟨_, SqL.of (k13 _ _ ha nap), rfl⟩, p, c, _, rfl, S3, by rw [List.length_map]; omega, by rw [List.length_map]; exact small ks.length (by omega), fun v2 H4 v20 v21 S4 k4 => ?_⟩
    rw [List.length_map] at v21
    obtain ⟨one, hone, hat1⟩ := at_idx (zs := ks) v20 v21
    have k14 := k13.trans k4
    refine ⟨a, _, v2, _, rfl, rfl, SqL.of (k14 _ _ ha nap), hat1, ?_⟩
    -- more
    refine ⟨⟨_, rfl⟩, _, rfl, _, rfl, p, c, a, ks, 3, rfl, S4, k14 _ _ ha nap, nap, hk, by decide, by decide, fun q zs H5 hq S5 k5 h5 gz hz hl => ?_⟩
    have jl := join3 " or " (by decide +kernel) gz
    have zl := gz.few
    have zs2 := kinds_sumD gz
    refine ⟨" or ", q, zs, rfl, rfl, .inl (SqL.of h5), ?_, ?_⟩
    · rw [show ((" or " : String) : Str).length = 4 from rfl]; omega
    have k15 := k14.trans k5
    have onel := kind_len (hk.kd one hone)
    have l4 : ((" -> " : String) : Str).length = 4 := rfl
    have done : ∀ (t : PartD) (H' : Hp), GoodP t → t.word = wd → (∀ z ∈ told t, z ∈ ks ∨ z ∈ rs ∨ z = (("gone" : String) : Str)) → Src H' p c → Kp p H5 H' → Q (.str (partS t)) H' := fun t H' g e m S' k' => k t H' g e m S' (k15.trans k')
    have af3 : af ∈ ks ∨ af ∈ rs ∨ af = (("gone" : String) : Str) := hAft.2.elim .inl fun e => .inr (.inr e)
    have tkinds : ∀ (w af' : Str), (af' ∈ ks ∨ af' ∈ rs ∨ af' = (("gone" : String) : Str)) → ∀ z ∈ told (.kinds w zs af'), z ∈ ks ∨ z ∈ rs ∨ z = (("gone" : String) : Str) := fun w af' h z m => by
      have m : z ∈ zs ++ ([af'] ++ []) := m
      rcases List.mem_append.mp m with e | e
      · exact .inl (hz z e)
      · rw [List.append_nil, List.mem_singleton] at e
        rw [e]; exact h
    have tkind : ∀ (w x af' : Str), (x ∈ ks ∨ x ∈ rs) → (af' ∈ ks ∨ af' ∈ rs ∨ af' = (("gone" : String) : Str)) → ∀ z ∈ told (.kind w x af'), z ∈ ks ∨ z ∈ rs ∨ z = (("gone" : String) : Str) := fun w x af' h1 h z m => by
      have m : z ∈ [x, af'] := m
      rcases List.mem_cons.mp m with e | e
      · rw [e]; exact h1.elim .inl fun q => .inr (.inl q)
      · rw [List.mem_singleton.mp e]; exact h
    have hks1 := hk.kd one hone
    rcases List.mem_cons.mp hwd with rfl | hwd
    · -- new
      refine ⟨_, rfl, rfl, false, congrArg V.bl (decide_eq_false (by decide +kernel)), iteF ?_⟩
      refine ⟨_, rfl, rfl, false, congrArg V.bl (decide_eq_false (by decide +kernel)), iteF ⟨_, rfl, rfl, false, congrArg V.bl (decide_eq_false (by decide +kernel)), iteF (iteF ?_)⟩⟩
      refine ⟨_, rfl, rfl, false, congrArg V.bl (decide_eq_false (by decide +kernel)), iteF ?_⟩
      refine ⟨_, rfl, rfl, true, congrArg V.bl (decide_eq_true rfl), iteT ⟨_, rfl, _, _, rfl, rfl, ?_, ?_⟩⟩
      · rw [show (("new " : String) : Str).length = 4 from rfl]; omega
      rw [new_text]
      exact done (.new one) H5 hks1 rfl (fun z m => .inl (by rw [List.mem_singleton.mp (show z ∈ [one] from m)]; exact hone)) S5 (Kp.refl p H5)
    rcases List.mem_cons.mp hwd with rfl | hwd
    · -- row
      refine ⟨_, rfl, rfl, true, congrArg V.bl (decide_eq_true rfl), iteT ⟨_, rfl, _, _, rfl, rfl, ?_, _, _, rfl, rfl, ?_, _, rfl, _, _, rfl, rfl, ?_, ?_⟩⟩
      · rw [show (("row " : String) : Str).length = 4 from rfl]; omega
      · rw [strLen_append, show (("row " : String) : Str).length = 4 from rfl, l4]; omega
      · rw [strLen_append, strLen_append, show (("row " : String) : Str).length = 4 from rfl, l4]; omega
      have q := done (.kinds "row" zs af) H5 ⟨gz, .inl ⟨rfl, hAft.1⟩⟩ rfl (tkinds _ _ af3) S5 (Kp.refl p H5)
      rw [← kinds_text gz.ne, show (("row" : String) : Str) ++ ((" " : String) : Str) = "row " by decide +kernel] at q
      exact q
    rcases List.mem_cons.mp hwd with rfl | hwd
    · -- one
      refine ⟨_, rfl, rfl, false, congrArg V.bl (decide_eq_false (by decide +kernel)), iteF ?_⟩
      by_cases c1 : (0 : Int) < at_
      · refine ⟨_, rfl, rfl, false, congrArg V.bl (decide_eq_false (by decide +kernel)), iteF ⟨_, rfl, rfl, true, congrArg V.bl (decide_eq_true rfl), iteT ⟨_, rfl, _, _, rfl, rfl, true, congrArg V.bl (decide_eq_true c1), iteT ?_⟩⟩⟩
        refine ⟨_, rfl, _, _, rfl, rfl, by decide +kernel, _, rfl, _, rfl, _, rfl, _, _, rfl, .inl ⟨_, SqL.of (k15 _ _ hra nrp), rfl⟩, p, c, _, rfl, S5, by rw [List.length_map]; omega, by rw [List.length_map]; exact small rs.length (by omega), fun v3 H6 v30 v31 S6 k6 => ?_⟩
        rw [List.length_map] at v31
        obtain ⟨rz, hrz, hatr⟩ := at_idx (zs := rs) v30 v31
        have rzl := kind_len (hrk.kd rz hrz)
        have wl : ((("one" : String) : Str) ++ ((" " : String) : Str)).length ≤ 5 := by decide +kernel
        refine ⟨r, _, v3, _, rfl, rfl, SqL.of (k6 _ _ (k15 _ _ hra nrp) nrp), hatr, _, _, rfl, rfl, by omega, _, _, rfl, rfl, ?_, _, rfl, _, _, rfl, rfl, ?_, ?_⟩
        · rw [strLen_append, l4]; omega
        · rw [strLen_append, strLen_append, l4]; omega
        rw [kind_text]
        exact done (.kind "one" rz af) H6 ⟨hrk.kd rz hrz, .inl ⟨.inl rfl, hAft.1⟩⟩ rfl (tkind _ _ _ (.inr hrz) af3) S6 k6
      · refine ⟨_, rfl, rfl, false, congrArg V.bl (decide_eq_false (by decide +kernel)), iteF ⟨_, rfl, rfl, true, congrArg V.bl (decide_eq_true rfl), iteT ⟨_, rfl, _, _, rfl, rfl, false, congrArg V.bl (decide_eq_false c1), iteF ?_⟩⟩⟩
        refine ⟨_, rfl, rfl, true, congrArg V.bl (decide_eq_true rfl), iteT ⟨_, rfl, _, _, rfl, rfl, ?_, _, _, rfl, rfl, ?_, _, rfl, _, _, rfl, rfl, ?_, ?_⟩⟩
        · rw [show (("one " : String) : Str).length = 4 from rfl]; omega
        · rw [strLen_append, show (("one " : String) : Str).length = 4 from rfl, l4]; omega
        · rw [strLen_append, strLen_append, show (("one " : String) : Str).length = 4 from rfl, l4]; omega
        have q := done (.kind "one" one af) H5 ⟨hks1, .inl ⟨.inl rfl, hAft.1⟩⟩ rfl (tkind _ _ _ (.inl hone) af3) S5 (Kp.refl p H5)
        rw [← kind_text, show (("one" : String) : Str) ++ ((" " : String) : Str) = "one " by decide +kernel] at q
        exact q
    rcases List.mem_cons.mp hwd with rfl | hwd
    · -- all
      refine ⟨_, rfl, rfl, false, congrArg V.bl (decide_eq_false (by decide +kernel)), iteF ?_⟩
      refine ⟨_, rfl, rfl, true, congrArg V.bl (decide_eq_true rfl), iteT (iteT ?_)⟩
      refine ⟨_, rfl, _, _, rfl, rfl, by decide +kernel, _, rfl, _, rfl, _, rfl, _, _, rfl, .inl ⟨_, SqL.of (k15 _ _ hra nrp), rfl⟩, p, c, _, rfl, S5, by rw [List.length_map]; omega, by rw [List.length_map]; exact small rs.length (by omega), fun v3 H6 v30 v31 S6 k6 => ?_⟩
      rw [List.length_map] at v31
      obtain ⟨rz, hrz, hatr⟩ := at_idx (zs := rs) v30 v31
      have rzl := kind_len (hrk.kd rz hrz)
      have wl : ((("all" : String) : Str) ++ ((" " : String) : Str)).length ≤ 5 := by decide +kernel
      refine ⟨r, _, v3, _, rfl, rfl, SqL.of (k6 _ _ (k15 _ _ hra nrp) nrp), hatr, _, _, rfl, rfl, by omega, _, _, rfl, rfl, ?_, _, rfl, _, _, rfl, rfl, ?_, ?_⟩
      · rw [strLen_append, l4]; omega
      · rw [strLen_append, strLen_append, l4]; omega
      rw [kind_text]
      exact done (.kind "all" rz af) H6 ⟨hrk.kd rz hrz, .inl ⟨.inr rfl, hAft.1⟩⟩ rfl (tkind _ _ _ (.inr hrz) af3) S6 k6
    rcases List.mem_cons.mp hwd with rfl | hwd
    · -- give
      refine ⟨_, rfl, rfl, false, congrArg V.bl (decide_eq_false (by decide +kernel)), iteF ?_⟩
      refine ⟨_, rfl, rfl, false, congrArg V.bl (decide_eq_false (by decide +kernel)), iteF ⟨_, rfl, rfl, false, congrArg V.bl (decide_eq_false (by decide +kernel)), iteF (iteF ?_)⟩⟩
      refine ⟨_, rfl, rfl, false, congrArg V.bl (decide_eq_false (by decide +kernel)), iteF ?_⟩
      refine ⟨_, rfl, rfl, false, congrArg V.bl (decide_eq_false (by decide +kernel)), iteF ?_⟩
      refine ⟨_, rfl, rfl, true, congrArg V.bl (decide_eq_true rfl), iteT ⟨_, rfl, _, _, rfl, rfl, ?_, _, _, rfl, rfl, ?_, _, rfl, _, _, rfl, rfl, ?_, ?_⟩⟩
      · rw [show (("give " : String) : Str).length = 5 from rfl]; omega
      · rw [strLen_append, show (("give " : String) : Str).length = 5 from rfl, l4]; omega
      · rw [strLen_append, strLen_append, show (("give " : String) : Str).length = 5 from rfl, l4]; omega
      have q := done (.kinds "give" zs one) H5 ⟨gz, .inr ⟨rfl, hks1⟩⟩ rfl (tkinds _ _ (.inl hone)) S5 (Kp.refl p H5)
      rw [← kinds_text gz.ne, show (("give" : String) : Str) ++ ((" " : String) : Str) = "give " by decide +kernel] at q
      exact q
    rcases List.mem_cons.mp hwd with rfl | hwd
    · -- take
      refine ⟨_, rfl, rfl, false, congrArg V.bl (decide_eq_false (by decide +kernel)), iteF ?_⟩
      refine ⟨_, rfl, rfl, false, congrArg V.bl (decide_eq_false (by decide +kernel)), iteF ⟨_, rfl, rfl, false, congrArg V.bl (decide_eq_false (by decide +kernel)), iteF (iteF ?_)⟩⟩
      refine ⟨_, rfl, rfl, false, congrArg V.bl (decide_eq_false (by decide +kernel)), iteF ?_⟩
      refine ⟨_, rfl, rfl, false, congrArg V.bl (decide_eq_false (by decide +kernel)), iteF ?_⟩
      refine ⟨_, rfl, rfl, false, congrArg V.bl (decide_eq_false (by decide +kernel)), iteF ?_⟩
      refine ⟨_, rfl, rfl, true, congrArg V.bl (decide_eq_true rfl), iteT ⟨_, rfl, _, _, rfl, rfl, ?_, _, _, rfl, rfl, ?_, _, rfl, _, rfl, _, rfl, _, _, rfl, .inl ⟨_, SqL.of (k15 _ _ ha nap), rfl⟩, p, c, _, rfl, S5, by rw [List.length_map]; omega, by rw [List.length_map]; exact small ks.length (by omega), fun v3 H6 v30 v31 S6 k6 => ?_⟩⟩
      · rw [show (("take " : String) : Str).length = 5 from rfl]; omega
      · rw [strLen_append, show (("take " : String) : Str).length = 5 from rfl, l4]; omega
      rw [List.length_map] at v31
      obtain ⟨kz, hkz, hatk⟩ := at_idx (zs := ks) v30 v31
      have kzl := kind_len (hk.kd kz hkz)
      refine ⟨a, _, v3, _, rfl, rfl, SqL.of (k6 _ _ (k15 _ _ ha nap) nap), hatk, _, _, rfl, rfl, ?_, ?_⟩
      · rw [strLen_append, strLen_append, show (("take " : String) : Str).length = 5 from rfl, l4]; omega
      have q := done (.kind "take" one kz) H6 ⟨hks1, .inr ⟨rfl, hk.kd kz hkz⟩⟩ rfl (tkind _ _ _ (.inl hone) (.inl hkz)) S6 k6
      rw [← kind_text, show (("take" : String) : Str) ++ ((" " : String) : Str) = "take " by decide +kernel] at q
      exact q
    · -- join
      obtain rfl := List.mem_singleton.mp hwd
      refine ⟨_, rfl, rfl, false, congrArg V.bl (decide_eq_false (by decide +kernel)), iteF ?_⟩
      refine ⟨_, rfl, rfl, false, congrArg V.bl (decide_eq_false (by decide +kernel)), iteF ⟨_, rfl, rfl, false, congrArg V.bl (decide_eq_false (by decide +kernel)), iteF (iteF ?_)⟩⟩
      refine ⟨_, rfl, rfl, false, congrArg V.bl (decide_eq_false (by decide +kernel)), iteF ?_⟩
      refine ⟨_, rfl, rfl, false, congrArg V.bl (decide_eq_false (by decide +kernel)), iteF ?_⟩
      refine ⟨_, rfl, rfl, false, congrArg V.bl (decide_eq_false (by decide +kernel)), iteF ?_⟩
      refine ⟨_, rfl, rfl, false, congrArg V.bl (decide_eq_false (by decide +kernel)), iteF ?_⟩
      exact done .join H5 trivial rfl (fun z m => by cases m) S5 (Kp.refl p H5)
end
end Dr

set_option Elab.async false
set_option linter.all false
set_option maxRecDepth 100000
set_option maxHeartbeats 8000000
/-! Doors: the texts of lines, plain. -/
namespace Dr
open PySem L2 Cs
theorem tokT_ne (t : TestD) : tokT t ≠ [] := by
  cases t with
  | row ks => exact fun e => by cases e
  | sum o ks sg n =>
    intro e
    have e := (List.append_eq_nil_iff.mp (show (if o = true then [(("other" : String) : Str)] else []) ++ (sepB "+" ks ++ [sg, ntS n]) = [] from e)).2
    have e := (List.append_eq_nil_iff.mp e).2
    cases e
theorem tokP_ne (t : PartD) : tokP t ≠ [] := by
  cases t <;> exact fun e => by cases e
theorem sepL_ne {b : Str} : ∀ {gs : List (List Str)}, gs ≠ [] → (∀ g ∈ gs, g ≠ []) → sepL b gs ≠ []
  | [], h, _ => absurd rfl h
  | [x], _, h => h x List.mem_cons_self
  | x :: y :: r, _, h => by show x ++ b :: sepL b (y :: r) ≠ []; simp
theorem sepLJ (b : Str) : ∀ {gs : List (List Str)}, (∀ g ∈ gs, g ≠ []) → Str.join " " (sepL b gs) = Str.join ((" " : String) ++ b ++ (" " : String)) (gs.map (Str.join " "))
  | [], _ => rfl
  | [x], _ => rfl
  | x :: y :: r, h => by
    have ih := sepLJ b (gs := y :: r) fun g m => h g (List.mem_cons_of_mem _ m)
    have ne := sepL_ne (b := b) (gs := y :: r) (by simp) fun g m => h g (List.mem_cons_of_mem _ m)
    show Str.join " " (x ++ ([b] ++ sepL b (y :: r))) = _
    rw [joinA " " (h x List.mem_cons_self) (by simp), joinA " " (l := [b]) (by simp) ne, ih]
    show _ = Str.join _ (Str.join " " x :: Str.join " " y :: r.map (Str.join " "))
    rw [joinS_consD]
    simp only [PySem.Str.append_assoc]
    rfl
theorem tests_join (ts : List TestD) : Str.join " " (sepL "and" (ts.map tokT)) = Txt.join " and " (ts.map testS) := by
  rw [sepLJ "and" fun g m => by obtain ⟨t, _, rfl⟩ := List.mem_map.mp m; exact tokT_ne t, List.map_map, TL.join_eq]
  rw [show ((" " : String) : Str) ++ (("and" : String) : Str) ++ ((" " : String) : Str) = " and " by decide +kernel]
  congr 1
  exact List.map_congr_left fun t _ => by show Str.join " " (tokT t) = Txt.join " " (tokT t); rw [TL.join_eq]
theorem parts_join (ps : List PartD) : Str.join " " (sepL "then" (ps.map tokP)) = Txt.join " then " (ps.map partS) := by
  rw [sepLJ "then" fun g m => by obtain ⟨t, _, rfl⟩ := List.mem_map.mp m; exact tokP_ne t, List.map_map, TL.join_eq]
  rw [show ((" " : String) : Str) ++ (("then" : String) : Str) ++ ((" " : String) : Str) = " then " by decide +kernel]
  congr 1
  exact List.map_congr_left fun t _ => by show Str.join " " (tokP t) = Txt.join " " (tokP t); rw [TL.join_eq]
theorem look_text {ts : List TestD} (h : ts ≠ []) : (("look " : String) : Str) ++ Txt.join " and " (ts.map testS) = lineS (.look ts) := by
  unfold lineS
  rw [TL.join_eq (y := " ")]
  show _ = Str.join " " ([(("look" : String) : Str)] ++ sepL "and" (ts.map tokT))
  rw [joinA " " (by simp) (sepL_ne (fun e => h (List.map_eq_nil_iff.mp e)) fun g m => by obtain ⟨t, _, rfl⟩ := List.mem_map.mp m; exact tokT_ne t), tests_join]
  rw [show (("look " : String) : Str) = (("look" : String) : Str) ++ ((" " : String) : Str) by decide +kernel]
  rfl
theorem do_text0 {ps : List PartD} (h : ps ≠ []) : (("do " : String) : Str) ++ Txt.join " then " (ps.map partS) = lineS (.deed ps []) := by
  unfold lineS
  rw [TL.join_eq (y := " ")]
  show _ = Str.join " " ([(("do" : String) : Str)] ++ (sepL "then" (ps.map tokP) ++ []))
  rw [List.append_nil, joinA " " (by simp) (sepL_ne (fun e => h (List.map_eq_nil_iff.mp e)) fun g m => by obtain ⟨t, _, rfl⟩ := List.mem_map.mp m; exact tokP_ne t), parts_join]
  rw [show (("do " : String) : Str) = (("do" : String) : Str) ++ ((" " : String) : Str) by decide +kernel]
  rfl
theorem do_text1 {ps : List PartD} {t : TestD} {r : List TestD} (h : ps ≠ []) : (("do " : String) : Str) ++ Txt.join " then " (ps.map partS) ++ " if " ++ Txt.join " and " ((t :: r).map testS) = lineS (.deed ps (t :: r)) := by
  have n1 : sepL "then" (ps.map tokP) ≠ [] := sepL_ne (fun e => h (List.map_eq_nil_iff.mp e)) fun g m => by obtain ⟨t, _, rfl⟩ := List.mem_map.mp m; exact tokP_ne t
  have n2 : sepL "and" ((t :: r).map tokT) ≠ [] := sepL_ne (by simp) fun g m => by obtain ⟨t, _, rfl⟩ := List.mem_map.mp m; exact tokT_ne t
  unfold lineS
  rw [TL.join_eq (y := " ")]
  show _ = Str.join " " ([(("do" : String) : Str)] ++ (sepL "then" (ps.map tokP) ++ ([(("if" : String) : Str)] ++ sepL "and" ((t :: r).map tokT))))
  rw [joinA " " (by simp) (by simp), joinA " " n1 (by simp), joinA " " (l := [(("if" : String) : Str)]) (by simp) n2, parts_join, tests_join]
  rw [show (("do " : String) : Str) = (("do" : String) : Str) ++ ((" " : String) : Str) by decide +kernel]
  rw [show ((" if " : String) : Str) = ((" " : String) : Str) ++ (("if" : String) : Str) ++ ((" " : String) : Str) by decide +kernel]
  simp only [PySem.Str.append_assoc]
  rfl
theorem tokT_tok {t : TestD} (h : GoodT t) : ∀ z ∈ tokT t, TokO z := by
  intro z e
  rcases tokT_mem h e with e | ⟨e, _⟩ | e | ⟨n, h0, h9, e⟩
  · exact kind_tok (kindsT_kd h e)
  · rw [e]; exact lit_tok _ (by decide +kernel)
  · exact lit_tok z (List.mem_append_left _ e)
  · rw [e]; exact dig_tok h0 h9
theorem tokP_tok {p : PartD} (h : GoodP p) : ∀ z ∈ tokP p, TokO z := by
  intro z e
  rcases tokP_mem e with e | e | e
  · rcases told_res h e with q | q
    · exact kind_tok q
    · rw [q]; exact lit_tok _ (by decide +kernel)
  · exact lit_tok z (List.mem_append_right _ (e ▸ part_word h))
  · exact lit_tok z (List.mem_append_left _ e)
theorem join12 {zs : List Str} (hl : zs.length ≤ 12) (h : ∀ z ∈ zs, TokO z) : (Txt.join " " zs).length ≤ 300 := by
  have h1 := joinS_lenD " " zs
  have h2 := sumS_leD (B := 20) (ts := zs) fun z m => (h z m).2.2
  rw [TL.join_eq]
  have e : ((" " : String) : Str).length = 1 := rfl
  rw [e] at h1
  omega
theorem testS_len {t : TestD} (h : GoodT t) : (testS t).length ≤ 300 := join12 (tokT_len h) (tokT_tok h)
theorem partS_len {t : PartD} (h : GoodP t) : (partS t).length ≤ 300 := join12 (tokP_len h) (tokP_tok h)
theorem join4 {sep : Str} {zs : List Str} (hs : sep.length ≤ 10) (hl : zs.length ≤ 4) (h : ∀ z ∈ zs, z.length ≤ 300) : (Txt.join sep zs).length ≤ 1240 ∧ (zs.map (·.length)).sum + zs.length * sep.length ≤ 1240 := by
  have h1 := joinS_lenD sep zs
  have h2 := sumS_leD (B := 300) (ts := zs) h
  have h3 : zs.length * sep.length ≤ 4 * 10 := Nat.mul_le_mul hl hs
  rw [TL.join_eq]
  omega
theorem tok_strOk_join {zs : List Str} (h : ∀ z ∈ zs, PyData.strOk z = true) : PyData.strOk (Str.join " " zs) = true := by
  induction zs with
  | nil => decide +kernel
  | cons x r ih =>
    have hx := h x List.mem_cons_self
    have ih := ih fun z m => h z (List.mem_cons_of_mem _ m)
    cases r with
    | nil => exact hx
    | cons y r =>
      rw [joinS_consD]
      have key : ∀ a b : Str, PyData.strOk a = true → PyData.strOk b = true → PyData.strOk (a ++ b) = true := fun a b h1 h2 => by
        unfold PyData.strOk at h1 h2 ⊢
        rw [PySem.Str.cps_append, Array.all_append, h1, h2]
        rfl
      exact key _ _ (key _ _ hx (by decide +kernel)) ih
theorem testS_ok {t : TestD} (h : GoodT t) : PyData.strOk (testS t) = true := by
  unfold testS
  rw [TL.join_eq]
  exact tok_strOk_join fun z m => (tokT_tok h z m).2.1
end Dr

set_option Elab.async false
set_option linter.all false
set_option maxRecDepth 100000
set_option maxHeartbeats 8000000
set_option pp.maxSteps 500
/-! Doors: the law's do lines. -/
namespace Dr
open PySem L2 Cs
theorem neS_go {K : PySem.W.Frag} {H : Hp} {x y : Addr} {zs ws : List Str} {Q : VK} (hx : H x = some (.lst (zs.map V.str))) (hy : H y = some (.lst (ws.map V.str))) (hz : ∀ z ∈ zs, PyData.strOk z = true) (hw : ∀ z ∈ ws, PyData.strOk z = true) (k : Q (.bl (!decide (zs = ws))) H) : rNeD K (.ref x) (.ref y) H Q :=
  ⟨plS zs, plS ws, .lst (SqL.of hx) (strs_dpS _), .lst (SqL.of hy) (strs_dpS _), plS_shaped hz, plS_shaped hw, by rw [plS_eqv]; exact k⟩
theorem cnt_snoc (hs : List Str) (z : Str) (ws : List Str) : cntIn (hs ++ [z]) ws = cntIn hs ws + if z ∈ ws then 1 else 0 := by
  unfold cntIn
  rw [List.filter_append, List.length_append]
  congr 1
  by_cases h : z ∈ ws
  · rw [if_pos h]; simp [h]
  · rw [if_neg h]; simp [h]
theorem kpUpdN {p : Addr} {H H' : Hp} {D : Addr} {o : HO} (k : Kp p H H') (h : H D = none) : Kp p H (upd H' D o) := fun b u e n => by
  rw [upd_ne (ne_of_none e h)]
  exact k _ _ e n
/-- what the do lines' loop holds -/
structure DoI (p c : Addr) (H H' : Hp) (D1 D2 : Addr) (zs : List Str) (u : Nat) : Prop where
  src : Src H' p c
  kp : Kp p H H'
  h1 : H' D1 = some (.lst (zs.map V.str))
  h2 : H' D2 = some (.lst (List.replicate u (.str "row")))
  n1 : D1 ≠ p
  n2 : D2 ≠ p
  m1 : D1 ≠ c
  m2 : D2 ≠ c
  n12 : D1 ≠ D2
  f1 : H D1 = none
  f2 : H D2 = none
theorem DoI.same {p c : Addr} {H H' H2 : Hp} {D1 D2 : Addr} {zs : List Str} {u : Nat} (h : DoI p c H H' D1 D2 zs u) (s : Same H' H2) : DoI p c H H2 D1 D2 zs u := ⟨h.src.same s, h.kp.trans (.of s), s _ _ h.h1, s _ _ h.h2, h.n1, h.n2, h.m1, h.m2, h.n12, h.f1, h.f2⟩
theorem DoI.drawn {p c : Addr} {H H' H2 : Hp} {D1 D2 : Addr} {zs : List Str} {u : Nat} (h : DoI p c H H' D1 D2 zs u) (S : Src H2 p c) (k : Kp p H' H2) : DoI p c H H2 D1 D2 zs u := ⟨S, h.kp.trans k, k _ _ h.h1 h.n1, k _ _ h.h2 h.n2, h.n1, h.n2, h.m1, h.m2, h.n12, h.f1, h.f2⟩
theorem DoI.put1 {p c : Addr} {H H' : Hp} {D1 D2 : Addr} {zs : List Str} {u : Nat} (h : DoI p c H H' D1 D2 zs u) (z : Str) : DoI p c H (upd H' D1 (.lst (zs.map V.str ++ [.str z]))) D1 D2 (zs ++ [z]) u :=
  ⟨h.src.keep fun b o n e => by rw [upd_ne (by rcases n with rfl | rfl; exact h.n1.symm; exact h.m1.symm)]; exact e, kpUpdN h.kp h.f1, by rw [upd_same, List.map_append]; rfl, by rw [upd_ne h.n12.symm]; exact h.h2, h.n1, h.n2, h.m1, h.m2, h.n12, h.f1, h.f2⟩
theorem DoI.put2 {p c : Addr} {H H' : Hp} {D1 D2 : Addr} {zs : List Str} {u : Nat} (h : DoI p c H H' D1 D2 zs u) : DoI p c H (upd H' D2 (.lst (List.replicate u (.str "row") ++ [.str "row"]))) D1 D2 zs (u + 1) :=
  ⟨h.src.keep fun b o n e => by rw [upd_ne (by rcases n with rfl | rfl; exact h.n2.symm; exact h.m2.symm)]; exact e, kpUpdN h.kp h.f2, by rw [upd_ne h.n12]; exact h.h1, by rw [upd_same, ← List.replicate_succ'], h.n1, h.n2, h.m1, h.m2, h.n12, h.f1, h.f2⟩
theorem inV_rep (z : Str) (u : Nat) : inV (.str z) (List.replicate u (.str z)) = decide (0 < u) := by
  have e : List.replicate u (V.str z) = (List.replicate u z).map V.str := by rw [List.map_replicate]
  rw [e, inV_strs]
  congr 1
  rw [List.mem_replicate]
  exact propext ⟨fun h => Nat.pos_of_ne_zero h.1, fun h => ⟨by omega, rfl⟩⟩
section
variable {P : Program} {w : World} {K : PySem.W.Frag} {mg : Str → Option Value} {base : Heap}
def spDo : Sp := fun vs H Q _ => ∃ (p c a r : Addr) (ks rs : List Str) (cr : Bool), vs = [.ref p, .ref a, .ref r, .bl cr] ∧ Src H p c ∧ H a = some (.lst (ks.map V.str)) ∧ a ≠ p ∧ H r = some (.lst (rs.map V.str)) ∧ r ≠ p ∧ GoodKs ks ∧ GoodKs rs ∧
  ∀ ps ts H', GoodDo ps ts → (∀ z ∈ stepKinds (.deed ps ts), z ∈ ks ∨ z ∈ rs) → (touchB (.deed ps ts) = true → cr = true) → Src H' p c → Kp p H H' → Q (.str (lineS (.deed ps ts))) H'
theorem ok_ldo {f fD fPa fTe : Addr} {fd fdD fdPa fdTe : FuncData} (F : Fun K "_law_do" "_law_do" s_l_do f fd) (g : Bi mg) (FD : Def P w K mg base CX0 2 "_law_draw" ["_law_source_here", "_law_size"] spDraw fD fdD) (FPa : Def P w K mg base CX0 4 "_law_part" ["_law_source_here", "_law_kinds_here", "_law_ruled", "_law_word_here", "_law_at_here"] spPart fPa fdPa)
    (FTe : Def P w K mg base CX0 4 "_law_test" ["_law_source_here", "_law_kinds_here", "_law_ruled", "_law_crossing"] spTest fTe fdTe) : FnOk P w K mg base CX0 5 f fd ["_law_source_here", "_law_kinds_here", "_law_ruled", "_law_crossing"] spDo := by
  obtain ⟨GD, mD, _, bD⟩ := id FD
  obtain ⟨GPa, mPa, _, bPa⟩ := id FPa
  obtain ⟨GTe, mTe, _, bTe⟩ := id FTe
  refine F.ok sc_l_do (fun vs H Q E h => ?_) (fun cdv A outer s H vs Q E hr h => ?_)
  · obtain ⟨_, _, _, _, _, _, _, rfl, _⟩ := h
    rfl
  · obtain ⟨p, c, a, r, ks, rs, cr, rfl, S0, ha, nap, hra, nrp, hk, hrk, k⟩ := h
    have hrPa : Room 4 _ := hr
    have hrTe : Room 4 _ := hr
    have hrD : Room 2 _ := hr.mono (by decide)
    have big : 8000 ≤ sizeLine := by decide
    refine ⟨_, (pss_cons (ps_set (i := 4) sc_l_do.nd rfl (Or.inl rfl) (pe_lst pa_nil))
      (pss_cons (ps_set (i := 5) sc_l_do.nd rfl (Or.inl rfl) (pe_lst pa_nil))
      (pss_cons (ps_set (i := 6) sc_l_do.nd rfl (Or.inr rfl) pe_bl)
      (pss_cons (ps_for PassesOwn.never rfl (pi_range1 rfl g.range (pa_cons (pe_op op_add pe_int (pe_call GD hrD rfl mD FD.kp bD .nil pass0 (pa_cons (pv 0) (pa_cons pe_int pa_nil)))) pa_nil)) (pg_name (i := 7) sc_l_do.nd rfl (Or.inl rfl)) (pss_cons (ps_set (i := 8) sc_l_do.nd rfl (Or.inl rfl) (pe_ix ix_list (pe_lst (pa_cons pe_str (pa_cons pe_str (pa_cons pe_str (pa_cons pe_str (pa_cons pe_str (pa_cons pe_str (pa_cons pe_str pa_nil)))))))) (pe_call GD hrD rfl mD FD.kp bD .nil pass0 (pa_cons (pv 0) (pa_cons pe_int pa_nil))) (fun _ _ => rfl)))
      (C8.pss_cut (ps_if (PW.pt (pw_or (PW.pt (pw_and (pt_cmpR op_in_seq (pv 8) (pe_lst (pa_cons pe_str (pa_cons pe_str pa_nil))) (by rfl)) (pw_and1 (pt_cmpR op_in_seq pe_str (pv 5) (by rfl))))) (pw_or1 (PW.pt (pw_and (pt_cmpR op_in_seq (pv 8) (pe_lst (pa_cons pe_str (pa_cons pe_str (pa_cons pe_str pa_nil)))) (by rfl)) (pw_and1 (PW.pt (pw_or (pt_val (pv 6)) (pw_or1 (pt_not (pt_val (pv 3)))))))))))) (pss_one (ps_set (i := 8) sc_l_do.nd rfl (Or.inl rfl) pe_str)) pss_nil)
      (C8.pss_cut (ps_if (pt_cmpR op_in_seq (pv 8) (pe_lst (pa_cons pe_str (pa_cons pe_str pa_nil))) (by rfl)) (pss_one (ps_expr (pe_bm PySem.F.plainAttrs_list PySem.F.slot_list_append PySem.F.type_list_append mt_append (pv 5) (pa_cons pe_str pa_nil)))) pss_nil)
      (C8.pss_cut (ps_if (pt_cmpR op_in_seq (pv 8) (pe_lst (pa_cons pe_str (pa_cons pe_str (pa_cons pe_str pa_nil)))) (by rfl)) (pss_one (ps_set (i := 6) sc_l_do.nd rfl (Or.inr rfl) pe_bl)) pss_nil)
      (pss_one (ps_expr (pe_bm PySem.F.plainAttrs_list PySem.F.slot_list_append PySem.F.type_list_append mt_append (pv 4) (pa_cons (pe_call GPa hrPa rfl mPa FPa.kp bPa .nil pass0 (pa_cons (pv 0) (pa_cons (pv 1) (pa_cons (pv 2) (pa_cons (pv 8) (pa_cons (pv 7) pa_nil)))))) pa_nil)))))))))
      (pss_cons (ps_setLc (i := 9) (own := [("_law_k", 11)]) (g := gName 11)  (by rfl) sc_l_do.nd rfl rfl (sw_true rfl rfl rfl (by decide +kernel)) (pi_range1 rfl g.range (pa_cons (pe_call GD hrD rfl mD FD.kp bD .nil pass0 (pa_cons (pv 0) (pa_cons pe_int pa_nil))) pa_nil)) (blkOk_by (own := [("_law_k", 11)]) (N := ["_law_source_here", "_law_kinds_here", "_law_ruled", "_law_crossing", "_law_parts", "_law_used", "_law_crossed", "_law_at_here", "_law_word_here", "_law_tests", "_law_text", "_law_k"]) (sc := defScope s_l_do) (by decide +kernel)) (fun _ _ _ _ _ => (pg_name (i := 11) sc_l_do.nd rfl (Or.inl rfl))) (fun _ _ _ _ _ => pts_nil) (fun _ _ _ _ _ => (pe_call GTe hrTe rfl mTe FTe.kp bTe .nil pass0 (pa_cons (pv 0) (pa_cons (pv 1) (pa_cons (pv 2) (pa_cons (pv 6) pa_nil)))))))
      (pss_cons (ps_set (i := 10) sc_l_do.nd rfl (Or.inl rfl) (pe_op op_add_str pe_str (pe_join pe_str (pv 4))))
      (pss_one (ps_ret (pe_ifExp (pt_cmpR (op_neD hr.units) (pv 9) (pe_lst pa_nil) (nomark _)) (pe_op op_add_str (pe_op op_add_str (pv 10) pe_str) (pe_join pe_str (pv 9))) (pv 10)))))))))), ?_⟩
    refine ⟨Nat.zero_le _, fun D1 hD1 => ⟨Nat.zero_le _, fun D2 hD2 => ?_⟩⟩
    have n12 : D1 ≠ D2 := fun e => by rw [← e, upd_same] at hD2; cases hD2
    have I0 : DoI p c H (upd (upd H D1 (.lst [])) D2 (.lst [])) D1 D2 [] 0 := by
      have s1 := Same.new (o := .lst []) hD1
      have s2 := s1.trans (Same.new (o := .lst []) hD2)
      exact ⟨S0.same s2, .of s2, by rw [upd_ne n12]; exact upd_same, upd_same, S0.new_p hD1, (S0.same s1).new_p hD2, S0.new_c hD1, (S0.same s1).new_c hD2, n12, hD1, Same.noneN s1 hD2⟩
    generalize upd (upd H D1 (.lst [])) D2 (.lst []) = H1 at I0 ⊢
    refine ⟨_, rfl, p, c, 4, rfl, I0.src, by decide, by decide, fun v H2 v0 v1 S2 k2 => ⟨_, _, rfl, rfl, _, rfl, by omega, by omega, ?_⟩⟩
    have I1 := I0.drawn S2 k2
    refine for_range (lo := 0) (n := (1 + v).toNat) (fun i σ' H' => ∃ (ps : List PartD) (x7 x8 : Option V), σ' = [some (.ref p), some (.ref a), some (.ref r), some (.bl cr), some (.ref D1), some (.ref D2), some (.bl (decide (0 < cntIn (ps.map PartD.word) CROSS))), x7, x8, none, none, none] ∧ DoI p c H H' D1 D2 (ps.map partS) (cntIn (ps.map PartD.word) RG) ∧ ps.length = i ∧ (∀ t ∈ ps, GoodP t) ∧
      cntIn (ps.map PartD.word) RG ≤ 1 ∧ cntIn (ps.map PartD.word) CROSS ≤ 1 ∧ (0 < cntIn (ps.map PartD.word) CROSS → cr = true) ∧ ∀ t ∈ ps, ∀ z ∈ told t, z ∈ ks ∨ z ∈ rs ∨ z = (("gone" : String) : Str)) ⟨[], _, _, rfl, I1, rfl, (fun _ m => by cases m), Nat.zero_le _, Nat.zero_le _, (fun q => absurd q (by decide)), fun _ m => by cases m⟩ ?_ ?_
    · rintro i σ' H' hi ⟨ps, x7, x8, rfl, I, hpl, hpg, hrg, hcr, hcc, htd⟩
      refine ⟨by show 7 ≤ sizeLine; decide, fun b hb => ?_⟩
      have sb := Same.new (o := .lst (PWORDS.map V.str)) hb
      have eb := upd_same (H := H') (a := b) (o := .lst (PWORDS.map V.str))
      have Ib := I.same sb
      have nbp : b ≠ p := I.src.new_p hb
      have eU : upd H' b (.lst (PWORDS.map V.str)) = upd H' b (.lst [.str "new", .str "row", .str "one", .str "all", .str "give", .str "take", .str "join"]) := rfl
      rw [eU] at sb eb Ib
      generalize upd H' b (.lst [.str "new", .str "row", .str "one", .str "all", .str "give", .str "take", .str "join"]) = H3 at sb eb Ib ⊢
      clear eU
      refine ⟨_, rfl, p, c, 7, rfl, Ib.src, by decide, by decide, fun v2 H4 v20 v21 S4 k4 => ?_⟩
      obtain ⟨wd, hwd, hat⟩ := at_idx (zs := PWORDS) v20 v21
      refine ⟨b, _, v2, _, rfl, rfl, SqL.of (k4 _ _ eb nbp), hat, ?_⟩
      have I4 := Ib.drawn S4 k4
      refine ⟨fun σ' H5 => ∃ (wd : Str), σ' = [some (.ref p), some (.ref a), some (.ref r), some (.bl cr), some (.ref D1), some (.ref D2), some (.bl (decide (0 < cntIn (ps.map PartD.word) CROSS))), some (.int (0 + (i : Int))), some (.str wd), none, none, none] ∧ wd ∈ PWORDS ∧ (wd ∈ RG → cntIn (ps.map PartD.word) RG = 0) ∧ (wd ∈ CROSS → cntIn (ps.map PartD.word) CROSS = 0 ∧ cr = true) ∧ DoI p c H H5 D1 D2 (ps.map partS) (cntIn (ps.map PartD.word) RG), ?_, ?_⟩
      · refine ⟨_, rfl, by show 2 ≤ sizeLine; decide, fun l1 hl1 => ⟨l1, _, rfl, .inl (SqL.of upd_same), rfl, rfl, _, rfl, ?_⟩⟩
        have I5 := I4.same (Same.new (o := .lst (RG.map V.str)) hl1)
        show if inV (.str wd) (RG.map V.str) = true then _ else _
        rw [inV_strs]
        by_cases cR : wd ∈ RG
        · rw [decide_eq_true cR]
          refine iteT ⟨_, rfl, D2, _, rfl, .inl (SqL.of I5.h2), rfl, by rw [List.all_replicate]; split <;> rfl, _, rfl, ?_⟩
          show if inV (.str "row") (List.replicate (cntIn (ps.map PartD.word) RG) (.str "row")) = true then _ else _
          rw [inV_rep]
          by_cases c0 : 0 < cntIn (ps.map PartD.word) RG
          · rw [decide_eq_true c0]
            exact iteT (iteT ⟨"new", rfl, by decide +kernel, fun q => absurd q (by decide +kernel), fun q => absurd q (by decide +kernel), I5⟩)
          · rw [decide_eq_false c0]
            refine iteF ?_
            refine ⟨_, rfl, by show 3 ≤ sizeLine; decide, fun l2 hl2 => ⟨l2, _, rfl, .inl (SqL.of upd_same), rfl, rfl, _, rfl, ?_⟩⟩
            have Iy := I5.same (Same.new (o := .lst (CROSS.map V.str)) hl2)
            show if inV (.str wd) (CROSS.map V.str) = true then _ else _
            rw [inV_strs]
            by_cases cC : wd ∈ CROSS
            · rw [decide_eq_true cC]
              refine iteT ⟨_, rfl, _, rfl, ?_⟩
              by_cases c1 : 0 < cntIn (ps.map PartD.word) CROSS
              · rw [decide_eq_true c1]
                exact iteT (iteT ⟨"new", rfl, by decide +kernel, fun q => absurd q (by decide +kernel), fun q => absurd q (by decide +kernel), Iy⟩)
              · rw [decide_eq_false c1]
                refine iteF ⟨_, rfl, _, rfl, ?_⟩
                cases hc : cr with
                | false => exact iteT ⟨"new", rfl, by decide +kernel, fun q => absurd q (by decide +kernel), fun q => absurd q (by decide +kernel), Iy⟩
                | true => exact iteF ⟨wd, rfl, hwd, fun _ => by omega, fun _ => ⟨by omega, rfl⟩, Iy⟩
            · rw [decide_eq_false cC]
              exact iteF (iteF ⟨wd, rfl, hwd, fun _ => by omega, fun q => absurd q cC, Iy⟩)

        · rw [decide_eq_false cR]
          refine iteF (iteF ?_)
          refine ⟨_, rfl, by show 3 ≤ sizeLine; decide, fun l2 hl2 => ⟨l2, _, rfl, .inl (SqL.of upd_same), rfl, rfl, _, rfl, ?_⟩⟩
          have Iy := I5.same (Same.new (o := .lst (CROSS.map V.str)) hl2)
          show if inV (.str wd) (CROSS.map V.str) = true then _ else _
          rw [inV_strs]
          by_cases cC : wd ∈ CROSS
          · rw [decide_eq_true cC]
            refine iteT ⟨_, rfl, _, rfl, ?_⟩
            by_cases c1 : 0 < cntIn (ps.map PartD.word) CROSS
            · rw [decide_eq_true c1]
              exact iteT (iteT ⟨"new", rfl, by decide +kernel, fun q => absurd q (by decide +kernel), fun q => absurd q (by decide +kernel), Iy⟩)
            · rw [decide_eq_false c1]
              refine iteF ⟨_, rfl, _, rfl, ?_⟩
              cases hc : cr with
              | false => exact iteT ⟨"new", rfl, by decide +kernel, fun q => absurd q (by decide +kernel), fun q => absurd q (by decide +kernel), Iy⟩
              | true => exact iteF ⟨wd, rfl, hwd, fun q => absurd q cR, fun _ => ⟨by omega, rfl⟩, Iy⟩
          · rw [decide_eq_false cC]
            exact iteF (iteF ⟨wd, rfl, hwd, fun q => absurd q cR, fun q => absurd q cC, Iy⟩)

      clear I4 I Ib hat eb sb hwd wd S4 k4 nbp
      rintro σ5 H5 ⟨wd, rfl, hwd, hR, hC, I5⟩
      refine ⟨fun σ' H6 => σ' = [some (.ref p), some (.ref a), some (.ref r), some (.bl cr), some (.ref D1), some (.ref D2), some (.bl (decide (0 < cntIn (ps.map PartD.word) CROSS))), some (.int (0 + (i : Int))), some (.str wd), none, none, none] ∧ DoI p c H H6 D1 D2 (ps.map partS) (cntIn (ps.map PartD.word ++ [wd]) RG), ?_, ?_⟩
      · refine ⟨_, rfl, by show 2 ≤ sizeLine; decide, fun l1 hl1 => ⟨l1, _, rfl, .inl (SqL.of upd_same), rfl, rfl, _, rfl, ?_⟩⟩
        have I6 := I5.same (Same.new (o := .lst (RG.map V.str)) hl1)
        show if inV (.str wd) (RG.map V.str) = true then _ else _
        rw [inV_strs]
        by_cases cR : wd ∈ RG
        · rw [decide_eq_true cR]
          have e0 := hR cR
          refine iteT ⟨_, rfl, .inl ⟨rfl, _, SqL.of I6.h2⟩, D2, _, _, rfl, rfl, I6.h2, by rw [List.length_replicate, e0]; decide, rfl, ?_⟩
          rw [cnt_snoc, if_pos cR]
          exact I6.put2
        · rw [decide_eq_false cR]
          refine iteF ⟨rfl, ?_⟩
          rw [cnt_snoc, if_neg cR]
          exact I6
      rintro σ6 H6 ⟨rfl, I6⟩
      refine ⟨fun σ' H7 => σ' = [some (.ref p), some (.ref a), some (.ref r), some (.bl cr), some (.ref D1), some (.ref D2), some (.bl (decide (0 < cntIn (ps.map PartD.word ++ [wd]) CROSS))), some (.int (0 + (i : Int))), some (.str wd), none, none, none] ∧ DoI p c H H7 D1 D2 (ps.map partS) (cntIn (ps.map PartD.word ++ [wd]) RG), ?_, ?_⟩
      · refine ⟨_, rfl, by show 3 ≤ sizeLine; decide, fun l1 hl1 => ⟨l1, _, rfl, .inl (SqL.of upd_same), rfl, rfl, _, rfl, ?_⟩⟩
        have I7 := I6.same (Same.new (o := .lst (CROSS.map V.str)) hl1)
        show if inV (.str wd) (CROSS.map V.str) = true then _ else _
        rw [inV_strs]
        by_cases cC : wd ∈ CROSS
        · rw [decide_eq_true cC, show decide (0 < cntIn (ps.map PartD.word ++ [wd]) CROSS) = true from decide_eq_true (by rw [cnt_snoc, if_pos cC]; omega)]
          exact iteT ⟨rfl, I7⟩
        · rw [decide_eq_false cC, show cntIn (ps.map PartD.word ++ [wd]) CROSS = cntIn (ps.map PartD.word) CROSS by rw [cnt_snoc, if_neg cC]; rfl]
          exact iteF ⟨rfl, I7⟩
      rintro σ7 H7 ⟨rfl, I7⟩
      refine ⟨_, rfl, .inl ⟨rfl, _, SqL.of I7.h1⟩, _, rfl, _, rfl, _, rfl, _, rfl, _, rfl, p, c, a, r, ks, rs, wd, _, rfl, I7.src, I7.kp _ _ ha nap, nap, I7.kp _ _ hra nrp, nrp, hk, hrk, hwd, fun t H8 gt et mt S8 k8 => ?_⟩
      have I8 := I7.drawn S8 k8
      have hil : i ≤ 3 := by omega
      refine ⟨D1, _, _, rfl, rfl, I8.h1, by rw [List.length_map, List.length_map]; omega, ps ++ [t], some (.int (0 + (i : Int))), some (.str wd), ?_, ?_, ?_, ?_, ?_, ?_, ?_, ?_⟩
      · have e : (ps ++ [t]).map PartD.word = ps.map PartD.word ++ [wd] := by
          rw [List.map_append]
          show _ ++ [t.word] = _
          rw [et]
        rw [e]
      · have q := I8.put1 (partS t)
        rw [List.map_append, List.map_append]
        show DoI p c H _ D1 D2 (ps.map partS ++ [partS t]) (cntIn (ps.map PartD.word ++ [t.word]) RG)
        rw [et]
        exact q
      · rw [List.length_append, hpl]; rfl
      · intro x m
        rcases List.mem_append.mp m with e | e
        · exact hpg x e
        · rw [List.mem_singleton.mp e]; exact gt
      · rw [List.map_append]
        show cntIn (ps.map PartD.word ++ [t.word]) RG ≤ 1
        rw [et, cnt_snoc]
        by_cases cR : wd ∈ RG
        · rw [if_pos cR, hR cR]; omega
        · rw [if_neg cR]; omega
      · rw [List.map_append]
        show cntIn (ps.map PartD.word ++ [t.word]) CROSS ≤ 1
        rw [et, cnt_snoc]
        by_cases cC : wd ∈ CROSS
        · rw [if_pos cC, (hC cC).1]; omega
        · rw [if_neg cC]; omega
      · rw [List.map_append]
        show 0 < cntIn (ps.map PartD.word ++ [t.word]) CROSS → _
        rw [et, cnt_snoc]
        by_cases cC : wd ∈ CROSS
        · exact fun _ => (hC cC).2
        · rw [if_neg cC]; exact hcc
      · intro x m
        rcases List.mem_append.mp m with e | e
        · exact htd x e
        · rw [List.mem_singleton.mp e]; exact mt
    · rintro σ' H' ⟨ps, x7, x8, rfl, I, hpl, hpg, hrg, hcr, hcc, htd⟩
      have hv4 : ps.length ≤ 4 := by omega
      have hv1 : 1 ≤ ps.length := by omega
      have pne : ps ≠ [] := fun e => by rw [e] at hv1; exact absurd hv1 (by decide)
      refine ⟨_, rfl, p, c, 5, rfl, I.src, by decide, by decide, fun n H3 n0 n1 S3 k3 => ⟨_, rfl, by omega, by omega, fun D hD => ?_⟩⟩
      have I3 := I.drawn S3 k3
      have nDp : D ≠ p := S3.new_p hD
      have nDc : D ≠ c := S3.new_c hD
      generalize hcrs : decide (0 < cntIn (ps.map PartD.word) CROSS) = crs
      refine lc_it walk_range (fun j H4 => Src H4 p c ∧ Kp p H3 H4 ∧ ∃ ts : List TestD, ts.length = j ∧ H4 D = some (.lst (ts.map fun t => .str (testS t))) ∧ (∀ t ∈ ts, GoodT t) ∧ (∀ t ∈ ts, asks t = true → crs = true) ∧ ∀ t ∈ ts, ∀ z ∈ kindsT t, z ∈ ks ∨ z ∈ rs) ⟨S3.same (Same.new hD), .of (Same.new hD), [], rfl, upd_same, (fun _ m => by cases m), (fun _ m => by cases m), fun _ m => by cases m⟩ (fun _ _ _ _ => trivial) ?_ ?_
      · rintro j x Ha Hb hj ⟨Sa, ka, ts, htl, hDa, hgt, has, hkt⟩ ⟨rfl, rfl⟩
        have kaa := I3.kp.trans ka
        refine ⟨rfl, yes_of ?_⟩
        refine ⟨_, rfl, _, rfl, _, rfl, _, rfl, p, c, a, r, ks, rs, crs, rfl, Sa, kaa _ _ ha nap, nap, kaa _ _ hra nrp, nrp, hk, hrk, fun t H5 gt mt at_ S5 k5 => ?_⟩
        refine ⟨_, k5 _ _ hDa nDp, ?_, ?_, kpUpdN (ka.trans k5) hD, ts ++ [t], by rw [List.length_append, htl]; rfl, by rw [upd_same, List.map_append]; rfl, ?_, ?_, ?_⟩
        · rw [List.length_map]
          exact Nat.lt_of_le_of_lt (show ts.length ≤ 5 by omega) (by decide)
        · exact S5.keep fun b o n e => by rw [upd_ne (by rcases n with rfl | rfl; exact nDp.symm; exact nDc.symm)]; exact e
        · intro y m
          rcases List.mem_append.mp m with e | e
          · exact hgt y e
          · rw [List.mem_singleton.mp e]; exact gt
        · intro y m
          rcases List.mem_append.mp m with e | e
          · exact has y e
          · rw [List.mem_singleton.mp e]; exact at_
        · intro y m
          rcases List.mem_append.mp m with e | e
          · exact hkt y e
          · rw [List.mem_singleton.mp e]; exact mt
      rintro H4 ⟨S4, k4, ts, htl, hD4, hgt, has, hkt⟩
      have I4 := I3.drawn S4 k4
      have htl4 : ts.length ≤ 4 := by omega
      have good : GoodDo ps ts := by
        refine ⟨pne, hv4, hpg, htl4, hgt, hrg, hcr, ?_⟩
        rintro ⟨e0, e1⟩
        obtain ⟨t, mt, e⟩ := List.any_eq_true.mp e1
        have := has t mt e
        rw [← hcrs, decide_eq_true_eq] at this
        omega
      have kds : ∀ z ∈ stepKinds (.deed ps ts), z ∈ ks ∨ z ∈ rs := by
        intro z m
        obtain ⟨m, ng⟩ := List.mem_filter.mp m
        have ng : ¬ z = (("gone" : String) : Str) := fun e => by rw [decide_eq_true e] at ng; cases ng
        rcases List.mem_append.mp (show z ∈ ts.flatMap kindsT ++ ps.flatMap fun p => (toldL p).flatten from m) with e | e
        · obtain ⟨t, mt, e⟩ := List.mem_flatMap.mp e
          exact hkt t mt z e
        · obtain ⟨t, mt, e⟩ := List.mem_flatMap.mp e
          rcases htd t mt z e with q | q | q
          · exact .inl q
          · exact .inr q
          · exact absurd q ng
      have fin := k ps ts
      have tch : touchB (.deed ps ts) = true → cr = true := fun e => hcc (of_decide_eq_true e)
      have j1 := join4 (sep := " then ") (zs := ps.map partS) (by decide +kernel) (by rw [List.length_map]; exact hv4) fun z m => by obtain ⟨t, mt, rfl⟩ := List.mem_map.mp m; exact partS_len (hpg t mt)
      have j2 := join4 (sep := " and ") (zs := ts.map testS) (by decide +kernel) (by rw [List.length_map]; exact htl4) fun z m => by obtain ⟨t, mt, rfl⟩ := List.mem_map.mp m; exact testS_len (hgt t mt)
      have ld : (("do " : String) : Str).length = 3 := rfl
      refine ⟨⟨_, rfl⟩, _, rfl, " then ", D1, ps.map partS, rfl, rfl, .inl (SqL.of I4.h1), by omega, _, _, rfl, rfl, by rw [ld]; omega, ?_⟩
      have hD4' : H4 D = some (.lst ((ts.map testS).map V.str)) := by rw [hD4, List.map_map]; rfl
      refine ⟨_, rfl, Nat.zero_le _, fun l hl => ?_⟩
      have sl := Same.new (o := .lst []) hl
      have el := upd_same (H := H4) (a := l) (o := .lst [])
      have S5 := S4.same sl
      have hD5 := sl _ _ hD4'
      have k5 := I4.kp.trans (Kp.of sl)
      generalize upd H4 l (.lst []) = H5 at sl el S5 hD5 k5 ⊢
      refine neS_go (ws := []) hD5 el (fun z m => by obtain ⟨t, mt, rfl⟩ := List.mem_map.mp m; exact testS_ok (hgt t mt)) (fun _ m => by cases m) ⟨_, rfl, ?_⟩
      cases ts with
      | nil =>
        refine iteF ⟨_, rfl, ?_⟩
        have q := fin H5 good kds tch S5 k5
        rw [← do_text0 pne] at q
        exact q
      | cons t r' =>
        refine iteT ⟨_, rfl, _, _, rfl, rfl, by rw [strLen_append, ld, show ((" if " : String) : Str).length = 4 from rfl]; omega, ⟨_, rfl⟩, _, rfl, " and ", D, (t :: r').map testS, rfl, rfl, .inl (SqL.of hD5), by omega, _, _, rfl, rfl, by rw [strLen_append, strLen_append, ld, show ((" if " : String) : Str).length = 4 from rfl]; omega, ?_⟩
        have q := fin H5 good kds tch S5 k5
        rw [← do_text1 pne] at q
        exact q
end
end Dr

set_option Elab.async false
set_option linter.all false
set_option maxRecDepth 100000
set_option maxHeartbeats 8000000
set_option pp.maxSteps 500
/-! Doors: the law's lines. -/
namespace Dr
open PySem L2 Cs
structure LiI (p c : Addr) (H H' : Hp) (D : Addr) (zs : List Str) : Prop where
  src : Src H' p c
  kp : Kp p H H'
  h1 : H' D = some (.lst (zs.map V.str))
  n1 : D ≠ p
  m1 : D ≠ c
  f1 : H D = none
theorem LiI.same {p c : Addr} {H H' H2 : Hp} {D : Addr} {zs : List Str} (h : LiI p c H H' D zs) (s : Same H' H2) : LiI p c H H2 D zs := ⟨h.src.same s, h.kp.trans (.of s), s _ _ h.h1, h.n1, h.m1, h.f1⟩
theorem LiI.drawn {p c : Addr} {H H' H2 : Hp} {D : Addr} {zs : List Str} (h : LiI p c H H' D zs) (S : Src H2 p c) (k : Kp p H' H2) : LiI p c H H2 D zs := ⟨S, h.kp.trans k, k _ _ h.h1 h.n1, h.n1, h.m1, h.f1⟩
theorem LiI.put {p c : Addr} {H H' : Hp} {D : Addr} {zs : List Str} (h : LiI p c H H' D zs) (z : Str) : LiI p c H (upd H' D (.lst (zs.map V.str ++ [.str z]))) D (zs ++ [z]) :=
  ⟨h.src.keep fun b o n e => by rw [upd_ne (by rcases n with rfl | rfl; exact h.n1.symm; exact h.m1.symm)]; exact e, kpUpdN h.kp h.f1, by rw [upd_same, List.map_append]; rfl, h.n1, h.m1, h.f1⟩
def KdIn (ks rs : List Str) (t : StepD) : Prop := ∀ z ∈ stepKinds t, z ∈ ks ∨ z ∈ rs
/-- good lines -/
structure GoodL (ts : List StepD) : Prop where
  good : ∀ t ∈ ts, GoodS t
  few : ts.length ≤ 6
  deeds : cntIn (ts.map StepD.word) ["do"] ≠ 0
  holds : cntIn (ts.map StepD.word) ["hold"] ≤ 1
  cross : (ts.filter touchB).length ≤ 1
theorem touch_snoc (ts : List StepD) (t : StepD) : ((ts ++ [t]).filter touchB).length = (ts.filter touchB).length + if touchB t = true then 1 else 0 := by
  rw [List.filter_append, List.length_append]
  congr 1
  by_cases h : touchB t = true
  · rw [if_pos h]; simp [h]
  · rw [if_neg h]; simp [h]
theorem hold_line : lineS .hold = (("hold" : String) : Str) := by
  unfold lineS
  rw [TL.join_eq]
  rfl
theorem line_cross {t : StepD} (h : GoodS t) : ([lineS t].any fun z => lineHas z CROSS) = touchB t := by
  show (lineHas (lineS t) CROSS || false) = touchB t
  rw [Bool.or_false]
  unfold lineHas
  rw [line_split h, has_cross h]
section
variable {P : Program} {w : World} {K : PySem.W.Frag} {mg : Str → Option Value} {base : Heap}
def spLines : Sp := fun vs H Q _ => ∃ (p c a r : Addr) (ks rs : List Str), vs = [.ref p, .ref a, .ref r] ∧ Src H p c ∧ H a = some (.lst (ks.map V.str)) ∧ a ≠ p ∧ H r = some (.lst (rs.map V.str)) ∧ r ≠ p ∧ GoodKs ks ∧ GoodKs rs ∧
  ∀ q ts H', H q = none → GoodL ts → (∀ t ∈ ts, KdIn ks rs t) → H' q = some (.lst ((ts.map lineS).map V.str)) → q ≠ p → q ≠ c → Src H' p c → Kp p H H' → Q (.ref q) H'
theorem ok_llines {f fD fDo fTe fHa : Addr} {fd fdD fdDo fdTe fdHa : FuncData} (F : Fun K "_law_lines" "_law_lines" s_l_lines f fd) (g : Bi mg) (FD : Def P w K mg base CX0 2 "_law_draw" ["_law_source_here", "_law_size"] spDraw fD fdD) (FDo : Def P w K mg base CX0 5 "_law_do" ["_law_source_here", "_law_kinds_here", "_law_ruled", "_law_crossing"] spDo fDo fdDo)
    (FTe : Def P w K mg base CX0 4 "_law_test" ["_law_source_here", "_law_kinds_here", "_law_ruled", "_law_crossing"] spTest fTe fdTe) (FHa : Def P w K mg base CX0 1 "_law_has" ["_law_lines_here", "_law_words"] spHas fHa fdHa) : FnOk P w K mg base CX0 6 f fd ["_law_source_here", "_law_kinds_here", "_law_ruled"] spLines := by
  obtain ⟨GD, mD, _, bD⟩ := id FD
  obtain ⟨GDo, mDo, _, bDo⟩ := id FDo
  obtain ⟨GTe, mTe, _, bTe⟩ := id FTe
  obtain ⟨GHa, mHa, _, bHa⟩ := id FHa
  refine F.ok sc_l_lines (fun vs H Q E h => ?_) (fun cdv A outer s H vs Q E hr h => ?_)
  · obtain ⟨_, _, _, _, _, _, rfl, _⟩ := h
    rfl
  · obtain ⟨p, c, a, r, ks, rs, rfl, S0, ha, nap, hra, nrp, hk, hrk, k⟩ := h
    have hrDo : Room 5 _ := hr
    have hrTe : Room 4 _ := hr.mono (by decide)
    have hrD : Room 2 _ := hr.mono (by decide)
    have hrHa : Room 1 _ := hr.mono (by decide)
    have big : 8000 ≤ sizeLine := by decide
    refine ⟨_, (pss_cons (ps_set (i := 3) sc_l_lines.nd rfl (Or.inl rfl) (pe_op op_add pe_int (pe_call GD hrD rfl mD FD.kp bD .nil pass0 (pa_cons (pv 0) (pa_cons pe_int pa_nil)))))
      (pss_cons (ps_set (i := 4) sc_l_lines.nd rfl (Or.inl rfl) (pe_call GD hrD rfl mD FD.kp bD .nil pass0 (pa_cons (pv 0) (pa_cons (pv 3) pa_nil))))
      (pss_cons (ps_set (i := 5) sc_l_lines.nd rfl (Or.inl rfl) (pe_cmpR op_eq (pe_call GD hrD rfl mD FD.kp bD .nil pass0 (pa_cons (pv 0) (pa_cons pe_int pa_nil))) pe_int (nomark _)))
      (pss_cons (ps_set (i := 6) sc_l_lines.nd rfl (Or.inl rfl) pe_bl)
      (pss_cons (ps_set (i := 7) sc_l_lines.nd rfl (Or.inl rfl) (pe_lst pa_nil))
      (pss_cons (ps_for PassesOwn.never rfl (pi_range1 rfl g.range (pa_cons (pv 3) pa_nil)) (pg_name (i := 8) sc_l_lines.nd rfl (Or.inl rfl)) (pss_cons (ps_set (i := 9) sc_l_lines.nd rfl (Or.inl rfl) (pe_call GD hrD rfl mD FD.kp bD .nil pass0 (pa_cons (pv 0) (pa_cons pe_int pa_nil))))
      (C8.pss_cut (ps_if (PW.pt (pw_or (pt_cmpR op_eq (pv 8) (pv 4) (nomark _)) (pw_or1 (pt_cmpR op_eq (pv 9) pe_int (nomark _))))) (pss_cons (ps_set (i := 10) sc_l_lines.nd rfl (Or.inl rfl) (pe_call GDo hrDo rfl mDo FDo.kp bDo .nil pass0 (pa_cons (pv 0) (pa_cons (pv 1) (pa_cons (pv 2) (pa_cons (pv 5) pa_nil))))))
      (pss_one (ps_if (pt_val (pe_call GHa hrHa rfl mHa FHa.kp bHa .nil pass0 (pa_cons (pe_lst (pa_cons (pv 10) pa_nil)) (pa_cons (pe_lst (pa_cons pe_str (pa_cons pe_str (pa_cons pe_str pa_nil)))) pa_nil)))) (pss_one (ps_set (i := 5) sc_l_lines.nd rfl (Or.inl rfl) pe_bl)) pss_nil))) (pss_one (ps_if (PW.pt (pw_and (pt_cmpR op_eq (pv 9) pe_int (nomark _)) (pw_and1 (pt_not (pt_val (pv 6)))))) (pss_cons (ps_set (i := 10) sc_l_lines.nd rfl (Or.inl rfl) pe_str)
      (pss_one (ps_set (i := 6) sc_l_lines.nd rfl (Or.inl rfl) pe_bl))) (pss_cons (ps_setLc (i := 11) (own := [("_law_k", 12)]) (g := gName 12)  (by rfl) sc_l_lines.nd rfl rfl (sw_true rfl rfl rfl (by decide +kernel)) (pi_range1 rfl g.range (pa_cons (pe_op op_add pe_int (pe_call GD hrD rfl mD FD.kp bD .nil pass0 (pa_cons (pv 0) (pa_cons pe_int pa_nil)))) pa_nil)) (blkOk_by (own := [("_law_k", 12)]) (N := ["_law_source_here", "_law_kinds_here", "_law_ruled", "_law_many", "_law_must", "_law_crossing", "_law_held", "_law_lines_here", "_law_at_here", "_law_mode", "_law_line", "_law_tests", "_law_k"]) (sc := defScope s_l_lines) (by decide +kernel)) (fun _ _ _ _ _ => (pg_name (i := 12) sc_l_lines.nd rfl (Or.inl rfl))) (fun _ _ _ _ _ => pts_nil) (fun _ _ _ _ _ => (pe_call GTe hrTe rfl mTe FTe.kp bTe .nil pass0 (pa_cons (pv 0) (pa_cons (pv 1) (pa_cons (pv 2) (pa_cons pe_bl pa_nil)))))))
      (pss_one (ps_set (i := 10) sc_l_lines.nd rfl (Or.inl rfl) (pe_op op_add_str pe_str (pe_join pe_str (pv 11)))))))))
      (pss_one (ps_expr (pe_bm PySem.F.plainAttrs_list PySem.F.slot_list_append PySem.F.type_list_append mt_append (pv 7) (pa_cons (pv 10) pa_nil)))))))
      (pss_one (ps_ret (pv 7))))))))), ?_⟩
    refine ⟨_, rfl, p, c, 6, rfl, S0, by decide, by decide, fun v H1 v0 v1 S1 k1 => ⟨_, _, rfl, rfl, ?_⟩⟩
    obtain ⟨m, rfl⟩ := Int.eq_ofNat_of_zero_le v0
    refine ⟨_, rfl, _, rfl, p, c, _, rfl, S1, by omega, Int.lt_of_le_of_lt (show (1 : Int) + (m : Nat) ≤ 6 by omega) (by decide), fun u H2 u0 u1 S2 k2 => ?_⟩
    refine ⟨_, rfl, p, c, 2, rfl, S2, by decide, by decide, fun x3 H3 x30 x31 S3 k3 => ⟨rfl, ?_⟩⟩
    refine ⟨Nat.zero_le _, fun D hD => ?_⟩
    have kk := (k1.trans k2).trans k3
    have I0 : LiI p c H (upd H3 D (.lst [])) D [] := ⟨S3.same (Same.new hD), kk.trans (.of (Same.new hD)), upd_same, S3.new_p hD, S3.new_c hD, by
      cases e : H D with
      | none => rfl
      | some o => rw [kk _ _ e (S3.new_p hD)] at hD; cases hD⟩
    generalize upd H3 D (.lst []) = H4 at I0 ⊢
    generalize decide (V.int x3 = V.int 1) = cr0
    refine ⟨_, rfl, _, rfl, by omega, by omega, ?_⟩
    refine for_range (lo := 0) (n := ((1 : Int) + (m : Nat)).toNat) (fun i σ' H' => ∃ (ts : List StepD) (cr hd : Bool) (x8 x9 x10 x11 : Option V), σ' = [some (.ref p), some (.ref a), some (.ref r), some (.int (1 + (m : Nat))), some (.int u), some (.bl cr), some (.bl hd), some (.ref D), x8, x9, x10, x11, none] ∧ LiI p c H H' D (ts.map lineS) ∧ ts.length = i ∧ (∀ t ∈ ts, GoodS t) ∧ (∀ t ∈ ts, KdIn ks rs t) ∧
      (cr = true → (ts.filter touchB).length = 0) ∧ (ts.filter touchB).length ≤ 1 ∧ cntIn (ts.map StepD.word) ["hold"] ≤ 1 ∧ (hd = false → cntIn (ts.map StepD.word) ["hold"] = 0) ∧ (u < (i : Nat) → cntIn (ts.map StepD.word) ["do"] ≠ 0)) ⟨[], cr0, false, _, _, _, _, rfl, I0, rfl, (fun _ m => by cases m), (fun _ m => by cases m), (fun _ => rfl), Nat.zero_le _, Nat.zero_le _, (fun _ => rfl), fun e => absurd e (by omega)⟩ ?_ ?_
    · rintro i σ' H' hi ⟨ts, cr, hd, x8, x9, x10, x11, rfl, I, htl, hgs, hkd, hcr, hc1, hh1, hh0, hmu⟩
      refine ⟨_, rfl, p, c, 4, rfl, I.src, by decide, by decide, fun v2 H5 v20 v21 S5 k5 => ?_⟩
      have I5 := I.drawn S5 k5
      refine ⟨fun σ' H6 => ∃ (t : StepD) (cr' hd' : Bool) (x11 : Option V), σ' = [some (.ref p), some (.ref a), some (.ref r), some (.int (1 + (m : Nat))), some (.int u), some (.bl cr'), some (.bl hd'), some (.ref D), some (.int (0 + (i : Int))), some (.int v2), some (.str (lineS t)), x11, none] ∧ LiI p c H H6 D (ts.map lineS) ∧ GoodS t ∧ KdIn ks rs t ∧ (((i : Nat) : Int) = u → t.word = (("do" : String) : Str)) ∧
        (touchB t = true → cr = true) ∧ (cr' = true → cr = true ∧ touchB t = false) ∧ (t.word = (("hold" : String) : Str) → hd = false) ∧ (hd' = false → hd = false ∧ ¬ t.word = (("hold" : String) : Str)), ?_, ?_⟩
      · refine ⟨_, rfl, _, rfl, rfl, _, rfl, ?_⟩
        by_cases c1 : V.int (0 + (i : Int)) = V.int u
        · rw [decide_eq_true c1]
          refine iteT (iteT ?_)
          refine ⟨_, rfl, _, rfl, _, rfl, _, rfl, p, c, a, r, ks, rs, cr, rfl, I5.src, I5.kp _ _ ha nap, nap, I5.kp _ _ hra nrp, nrp, hk, hrk, fun ps tt H6 gd kd tc S6 k6 => ?_⟩
          have gS : GoodS (.deed ps tt) := gd
          have I6 := I5.drawn S6 k6
          refine ⟨_, rfl, by show 1 ≤ sizeLine; decide, fun l1 hl1 => ⟨by show 3 ≤ sizeLine; decide, fun l2 hl2 => ?_⟩⟩
          have s7 := (Same.new (o := .lst [.str (lineS (.deed ps tt))]) hl1).trans (Same.new (o := .lst (CROSS.map V.str)) hl2)
          refine ⟨l1, l2, [lineS (.deed ps tt)], CROSS, rfl, Same.new hl2 _ _ upd_same, upd_same, fun z mz => by rw [List.mem_singleton.mp mz]; exact (line_ok gS).1.fit, fun H9 s9 => ⟨_, rfl, ?_⟩⟩
          rw [line_cross gS]
          have I9 := I6.same (s7.trans s9)
          cases ct : touchB (.deed ps tt) with
          | true => exact iteT ⟨.deed ps tt, false, hd, x11, rfl, I9, gS, kd, fun _ => rfl, tc, (fun e => by cases e), (fun e => absurd e (by show ¬ (("do" : String) : Str) = "hold"; decide +kernel)), fun e => ⟨e, by show ¬ (("do" : String) : Str) = "hold"; decide +kernel⟩⟩
          | false => exact iteF ⟨.deed ps tt, cr, hd, x11, rfl, I9, gS, kd, fun _ => rfl, tc, (fun e => ⟨e, ct⟩), (fun e => absurd e (by show ¬ (("do" : String) : Str) = "hold"; decide +kernel)), fun e => ⟨e, by show ¬ (("do" : String) : Str) = "hold"; decide +kernel⟩⟩
        rw [decide_eq_false c1]
        refine iteF ⟨_, rfl, rfl, _, rfl, ?_⟩
        by_cases c2 : V.int v2 = V.int 0
        · rw [decide_eq_true c2]
          refine iteT ?_
          refine ⟨_, rfl, _, rfl, _, rfl, _, rfl, p, c, a, r, ks, rs, cr, rfl, I5.src, I5.kp _ _ ha nap, nap, I5.kp _ _ hra nrp, nrp, hk, hrk, fun ps tt H6 gd kd tc S6 k6 => ?_⟩
          have gS : GoodS (.deed ps tt) := gd
          have I6 := I5.drawn S6 k6
          refine ⟨_, rfl, by show 1 ≤ sizeLine; decide, fun l1 hl1 => ⟨by show 3 ≤ sizeLine; decide, fun l2 hl2 => ?_⟩⟩
          have s7 := (Same.new (o := .lst [.str (lineS (.deed ps tt))]) hl1).trans (Same.new (o := .lst (CROSS.map V.str)) hl2)
          refine ⟨l1, l2, [lineS (.deed ps tt)], CROSS, rfl, Same.new hl2 _ _ upd_same, upd_same, fun z mz => by rw [List.mem_singleton.mp mz]; exact (line_ok gS).1.fit, fun H9 s9 => ⟨_, rfl, ?_⟩⟩
          rw [line_cross gS]
          have I9 := I6.same (s7.trans s9)
          cases ct : touchB (.deed ps tt) with
          | true => exact iteT ⟨.deed ps tt, false, hd, x11, rfl, I9, gS, kd, fun _ => rfl, tc, (fun e => by cases e), (fun e => absurd e (by show ¬ (("do" : String) : Str) = "hold"; decide +kernel)), fun e => ⟨e, by show ¬ (("do" : String) : Str) = "hold"; decide +kernel⟩⟩
          | false => exact iteF ⟨.deed ps tt, cr, hd, x11, rfl, I9, gS, kd, fun _ => rfl, tc, (fun e => ⟨e, ct⟩), (fun e => absurd e (by show ¬ (("do" : String) : Str) = "hold"; decide +kernel)), fun e => ⟨e, by show ¬ (("do" : String) : Str) = "hold"; decide +kernel⟩⟩
        rw [decide_eq_false c2]
        refine iteF ?_
        have niu : ¬ ((i : Nat) : Int) = u := fun e => c1 (by rw [← e, Int.zero_add])
        refine ⟨_, rfl, rfl, _, rfl, ?_⟩
        by_cases c3 : V.int v2 = V.int 1
        · rw [decide_eq_true c3]
          refine iteT ⟨_, rfl, hd, rfl, ?_⟩
          cases hh : hd with
          | false =>
            refine iteT ?_
            exact ⟨.hold, cr, true, x11, by rw [hold_line]; rfl, I5, trivial, (fun z m => by cases m), (fun e => absurd e niu), (fun e => by cases (show false = true from e)), (fun e => ⟨e, rfl⟩), (fun _ => rfl), fun e => by cases e⟩
          | true =>
            refine iteF ?_
            refine ⟨_, rfl, p, c, 4, rfl, I5.src, by decide, by decide, fun n H6 n0 n1 S6 k6 => ⟨_, _, rfl, rfl, _, rfl, by omega, by omega, fun D2 hD2 => ?_⟩⟩
            have I6 := I5.drawn S6 k6
            have nDp : D2 ≠ p := S6.new_p hD2
            have nDc : D2 ≠ c := S6.new_c hD2
            refine lc_it walk_range (fun j H7 => Src H7 p c ∧ Kp p H6 H7 ∧ ∃ ts : List TestD, ts.length = j ∧ H7 D2 = some (.lst (ts.map fun t => .str (testS t))) ∧ (∀ t ∈ ts, GoodT t) ∧ (∀ t ∈ ts, asks t = true → false = true) ∧ ∀ t ∈ ts, ∀ z ∈ kindsT t, z ∈ ks ∨ z ∈ rs) ⟨S6.same (Same.new hD2), .of (Same.new hD2), [], rfl, upd_same, (fun _ m => by cases m), (fun _ m => by cases m), fun _ m => by cases m⟩ (fun _ _ _ _ => trivial) ?_ ?_
            · rintro j x Ha Hb hj ⟨Sa, ka, t2, t2l, hDa, hgt, has, hkt⟩ ⟨rfl, rfl⟩
              have kaa := I6.kp.trans ka
              refine ⟨rfl, yes_of ?_⟩
              refine ⟨_, rfl, _, rfl, _, rfl, p, c, a, r, ks, rs, false, rfl, Sa, kaa _ _ ha nap, nap, kaa _ _ hra nrp, nrp, hk, hrk, fun t H8 gt mt at_ S8 k8 => ?_⟩
              refine ⟨_, k8 _ _ hDa nDp, ?_, ?_, kpUpdN (ka.trans k8) hD2, t2 ++ [t], by rw [List.length_append, t2l]; rfl, by rw [upd_same, List.map_append]; rfl, ?_, ?_, ?_⟩
              · rw [List.length_map]
                exact Nat.lt_of_le_of_lt (show t2.length ≤ 5 by omega) (by decide)
              · exact S8.keep fun b o n e => by rw [upd_ne (by rcases n with rfl | rfl; exact nDp.symm; exact nDc.symm)]; exact e
              · intro y m
                rcases List.mem_append.mp m with e | e
                · exact hgt y e
                · rw [List.mem_singleton.mp e]; exact gt
              · intro y m
                rcases List.mem_append.mp m with e | e
                · exact has y e
                · rw [List.mem_singleton.mp e]; exact at_
              · intro y m
                rcases List.mem_append.mp m with e | e
                · exact hkt y e
                · rw [List.mem_singleton.mp e]; exact mt
            rintro H7 ⟨S7, k7, t2, t2l, hD7, hgt, has, hkt⟩
            have I7 := I6.drawn S7 k7
            have t2n : t2 ≠ [] := fun e => by rw [e] at t2l; simp at t2l; omega
            have t24 : t2.length ≤ 4 := by omega
            have j2 := join4 (sep := " and ") (zs := t2.map testS) (by decide +kernel) (by rw [List.length_map]; exact t24) fun z m => by obtain ⟨t, mt, rfl⟩ := List.mem_map.mp m; exact testS_len (hgt t mt)
            have noA : t2.any asks = false := by
              cases e : t2.any asks with
              | false => rfl
              | true =>
                obtain ⟨t, mt, e⟩ := List.any_eq_true.mp e
                exact absurd (has t mt e) (by decide)
            have kdL : KdIn ks rs (.look t2) := fun z m => by
              obtain ⟨m, _⟩ := List.mem_filter.mp m
              rcases List.mem_append.mp (show z ∈ t2.flatMap kindsT ++ [] from m) with e | e
              · obtain ⟨t, mt, e⟩ := List.mem_flatMap.mp e
                exact hkt t mt z e
              · cases e
            refine ⟨⟨_, rfl⟩, _, rfl, " and ", D2, t2.map testS, rfl, rfl, .inl (SqL.of (by rw [hD7, List.map_map]; rfl)), by omega, _, _, rfl, rfl, by rw [show (("look " : String) : Str).length = 5 from rfl]; omega, ?_⟩
            rw [look_text t2n]
            exact ⟨.look t2, cr, true, some (.ref D2), rfl, I7, ⟨t2n, t24, hgt, noA⟩, kdL, fun e => absurd e niu, (fun e => by cases (show false = true from e)), (fun e => ⟨e, rfl⟩), (fun e => absurd e (by show ¬ (("look" : String) : Str) = "hold"; decide +kernel)), fun e => ⟨e, by show ¬ (("look" : String) : Str) = "hold"; decide +kernel⟩⟩
        rw [decide_eq_false c3]
        refine iteF (iteF ?_)
        refine ⟨_, rfl, p, c, 4, rfl, I5.src, by decide, by decide, fun n H6 n0 n1 S6 k6 => ⟨_, _, rfl, rfl, _, rfl, by omega, by omega, fun D2 hD2 => ?_⟩⟩
        have I6 := I5.drawn S6 k6
        have nDp : D2 ≠ p := S6.new_p hD2
        have nDc : D2 ≠ c := S6.new_c hD2
        refine lc_it walk_range (fun j H7 => Src H7 p c ∧ Kp p H6 H7 ∧ ∃ ts : List TestD, ts.length = j ∧ H7 D2 = some (.lst (ts.map fun t => .str (testS t))) ∧ (∀ t ∈ ts, GoodT t) ∧ (∀ t ∈ ts, asks t = true → false = true) ∧ ∀ t ∈ ts, ∀ z ∈ kindsT t, z ∈ ks ∨ z ∈ rs) ⟨S6.same (Same.new hD2), .of (Same.new hD2), [], rfl, upd_same, (fun _ m => by cases m), (fun _ m => by cases m), fun _ m => by cases m⟩ (fun _ _ _ _ => trivial) ?_ ?_
        · rintro j x Ha Hb hj ⟨Sa, ka, t2, t2l, hDa, hgt, has, hkt⟩ ⟨rfl, rfl⟩
          have kaa := I6.kp.trans ka
          refine ⟨rfl, yes_of ?_⟩
          refine ⟨_, rfl, _, rfl, _, rfl, p, c, a, r, ks, rs, false, rfl, Sa, kaa _ _ ha nap, nap, kaa _ _ hra nrp, nrp, hk, hrk, fun t H8 gt mt at_ S8 k8 => ?_⟩
          refine ⟨_, k8 _ _ hDa nDp, ?_, ?_, kpUpdN (ka.trans k8) hD2, t2 ++ [t], by rw [List.length_append, t2l]; rfl, by rw [upd_same, List.map_append]; rfl, ?_, ?_, ?_⟩
          · rw [List.length_map]
            exact Nat.lt_of_le_of_lt (show t2.length ≤ 5 by omega) (by decide)
          · exact S8.keep fun b o n e => by rw [upd_ne (by rcases n with rfl | rfl; exact nDp.symm; exact nDc.symm)]; exact e
          · intro y m
            rcases List.mem_append.mp m with e | e
            · exact hgt y e
            · rw [List.mem_singleton.mp e]; exact gt
          · intro y m
            rcases List.mem_append.mp m with e | e
            · exact has y e
            · rw [List.mem_singleton.mp e]; exact at_
          · intro y m
            rcases List.mem_append.mp m with e | e
            · exact hkt y e
            · rw [List.mem_singleton.mp e]; exact mt
        rintro H7 ⟨S7, k7, t2, t2l, hD7, hgt, has, hkt⟩
        have I7 := I6.drawn S7 k7
        have t2n : t2 ≠ [] := fun e => by rw [e] at t2l; simp at t2l; omega
        have t24 : t2.length ≤ 4 := by omega
        have j2 := join4 (sep := " and ") (zs := t2.map testS) (by decide +kernel) (by rw [List.length_map]; exact t24) fun z m => by obtain ⟨t, mt, rfl⟩ := List.mem_map.mp m; exact testS_len (hgt t mt)
        have noA : t2.any asks = false := by
          cases e : t2.any asks with
          | false => rfl
          | true =>
            obtain ⟨t, mt, e⟩ := List.any_eq_true.mp e
            exact absurd (has t mt e) (by decide)
        have kdL : KdIn ks rs (.look t2) := fun z m => by
          obtain ⟨m, _⟩ := List.mem_filter.mp m
          rcases List.mem_append.mp (show z ∈ t2.flatMap kindsT ++ [] from m) with e | e
          · obtain ⟨t, mt, e⟩ := List.mem_flatMap.mp e
            exact hkt t mt z e
          · cases e
        refine ⟨⟨_, rfl⟩, _, rfl, " and ", D2, t2.map testS, rfl, rfl, .inl (SqL.of (by rw [hD7, List.map_map]; rfl)), by omega, _, _, rfl, rfl, by rw [show (("look " : String) : Str).length = 5 from rfl]; omega, ?_⟩
        rw [look_text t2n]
        exact ⟨.look t2, cr, hd, some (.ref D2), rfl, I7, ⟨t2n, t24, hgt, noA⟩, kdL, fun e => absurd e niu, (fun e => by cases (show false = true from e)), (fun e => ⟨e, rfl⟩), (fun e => absurd e (by show ¬ (("look" : String) : Str) = "hold"; decide +kernel)), fun e => ⟨e, by show ¬ (("look" : String) : Str) = "hold"; decide +kernel⟩⟩
      clear I5 S5 k5 x8 x9 x10 x11
      rintro σ6 H6 ⟨t, cr', hd', x11, rfl, I6, gS, kd, emu, tc, cc, wh, hh⟩
      refine ⟨_, rfl, .inl ⟨rfl, _, SqL.of I6.h1⟩, _, rfl, D, _, _, rfl, rfl, I6.h1, by rw [List.length_map, List.length_map]; exact Nat.lt_of_le_of_lt (show ts.length ≤ 8 by omega) (by decide), ts ++ [t], cr', hd', _, _, _, _, rfl, ?_, ?_, ?_, ?_, ?_, ?_, ?_, ?_, ?_⟩
      · rw [List.map_append]
        exact I6.put (lineS t)
      · rw [List.length_append, htl]; rfl
      · intro x mx
        rcases List.mem_append.mp mx with e | e
        · exact hgs x e
        · rw [List.mem_singleton.mp e]; exact gS
      · intro x mx
        rcases List.mem_append.mp mx with e | e
        · exact hkd x e
        · rw [List.mem_singleton.mp e]; exact kd
      · intro e
        obtain ⟨e1, e2⟩ := cc e
        rw [touch_snoc, hcr e1, e2]
        rfl
      · rw [touch_snoc]
        by_cases e : touchB t = true
        · rw [if_pos e, hcr (tc e)]; exact Nat.le_refl _
        · rw [if_neg e]; exact hc1
      · rw [List.map_append]
        show cntIn (ts.map StepD.word ++ [t.word]) ["hold"] ≤ 1
        rw [cnt_snoc]
        by_cases e : t.word ∈ [(("hold" : String) : Str)]
        · rw [if_pos e, hh0 (wh (List.mem_singleton.mp e))]; exact Nat.le_refl _
        · rw [if_neg e]; exact hh1
      · intro e
        obtain ⟨e1, e2⟩ := hh e
        rw [List.map_append]
        show cntIn (ts.map StepD.word ++ [t.word]) ["hold"] = 0
        rw [cnt_snoc, hh0 e1, if_neg (fun q => e2 (List.mem_singleton.mp q))]
      · intro e
        rw [List.map_append]
        show cntIn (ts.map StepD.word ++ [t.word]) ["do"] ≠ 0
        rw [cnt_snoc]
        by_cases c1 : ((i : Nat) : Int) = u
        · rw [if_pos (List.mem_singleton.mpr (emu c1))]; omega
        · have := hmu (by omega)
          omega
    · rintro σ' H' ⟨ts, cr, hd, x8, x9, x10, x11, rfl, I, htl, hgs, hkd, hcr, hc1, hh1, hh0, hmu⟩
      exact ⟨_, rfl, k D ts H' I.f1 ⟨hgs, by omega, hmu (by omega), hh1, hc1⟩ hkd I.h1 I.n1 I.m1 I.src I.kp⟩
end
end Dr

set_option Elab.async false
set_option linter.all false
set_option maxRecDepth 100000
set_option maxHeartbeats 8000000
set_option pp.maxSteps 500
/-! Doors: a door shows what it should. -/
namespace Dr
open PySem L2 Cs
/-- what isinstance asks of the class -/
structure DI (K : PySem.W.Frag) (C : Addr) : Prop where
  ty : ∀ {H : Hp} {p dx : Addr} {fs : List (Str × V)}, H p = some (.ins C dx fs) → TyX K H (.ref p) (.ref C)
theorem kit_selfD {K : PySem.W.Frag} {C : Addr} : PySem.W.kitOne K (.ref C) (.ref C) = some true := by
  unfold PySem.W.kitOne
  rw [if_pos (beq_self_eq_true _)]
def plT (zs : List Str) : PyData := .tuple (zs.map .str)
theorem plT_eqv (a b : List Str) : PyData.eqv (plT a) (plT b) = decide (a = b) := by
  unfold plT
  rw [PyData.eqv, eqvAllS]
theorem plT_shapedD {zs : List Str} (h : ∀ z ∈ zs, PyData.strOk z = true) : SeqAt.shaped (plT zs) = true := by
  unfold SeqAt.shaped plT
  rw [Bool.and_eq_true]
  refine ⟨by rw [PyData.canLay0]; exact canS h, decide_eq_true ?_⟩
  rw [PyData.depth, depS]
  decide
theorem neTu_go {K : PySem.W.Frag} {H : Hp} {x y : Addr} {zs ws : List Str} {Q : VK} (hx : H x = some (.tup (zs.map V.str))) (hy : H y = some (.tup (ws.map V.str))) (hz : ∀ z ∈ zs, PyData.strOk z = true) (hw : ∀ z ∈ ws, PyData.strOk z = true) (k : Q (.bl (!decide (zs = ws))) H) : rNeD K (.ref x) (.ref y) H Q :=
  ⟨plT zs, plT ws, .tup (SqT.of hx) (strs_dpS _), .tup (SqT.of hy) (strs_dpS _), plT_shapedD hz, plT_shapedD hw, by rw [plT_eqv]; exact k⟩
theorem lineS_ok {t : StepD} (h : GoodS t) : PyData.strOk (lineS t) = true := by
  unfold lineS
  rw [TL.join_eq]
  exact tok_strOk_join fun z m => (tokL_tok h z m).2.1
theorem any_map_has {ts : List StepD} (h : ∀ t ∈ ts, GoodS t) (ws : List Str) (f : StepD → Bool) (e : ∀ t ∈ ts, hasW (tokL t) ws = f t) : ((ts.map lineS).any fun z => lineHas z ws) = ts.any f := by
  rw [List.any_map]
  have key : ∀ t ∈ ts, ((fun z => lineHas z ws) ∘ lineS) t = f t := fun t m => by
    show lineHas (lineS t) ws = f t
    unfold lineHas
    rw [line_split (h t m), e t m]
  clear e
  induction ts with
  | nil => rfl
  | cons t ts ih =>
    rw [List.any_cons, List.any_cons, key t List.mem_cons_self, ih (fun x m => h x (List.mem_cons_of_mem _ m)) fun x m => key x (List.mem_cons_of_mem _ m)]
theorem touches_any {ts : List StepD} (h : (ts.filter touchB).length ≤ 1) : touches ts = ts.any touchB := by
  unfold touches
  rw [Bool.eq_iff_iff, decide_eq_true_eq, List.any_eq_true]
  constructor
  · intro e
    obtain ⟨t, m⟩ := List.length_pos_iff_exists_mem.mp (show 0 < (ts.filter touchB).length by omega)
    exact ⟨t, (List.mem_filter.mp m).1, (List.mem_filter.mp m).2⟩
  · rintro ⟨t, m, e⟩
    have : 0 < (ts.filter touchB).length := List.length_pos_iff_exists_mem.mpr ⟨t, List.mem_filter.mpr ⟨m, e⟩⟩
    omega
theorem flat_len {α : Type} (f : α → List Str) (B : Nat) : ∀ xs : List α, (∀ x ∈ xs, (f x).length ≤ B) → (xs.flatMap f).length ≤ xs.length * B
  | [], _ => Nat.zero_le _
  | x :: xs, h => by
    have ih := flat_len f B xs fun y m => h y (List.mem_cons_of_mem _ m)
    have := h x List.mem_cons_self
    rw [List.flatMap_cons, List.length_append, List.length_cons, Nat.add_mul, Nat.one_mul]
    omega
theorem raw_len {t : StepD} (h : GoodS t) : (rawKinds t).length ≤ 100 := by
  have l1 : t.tests.length ≤ 4 := by
    cases t with
    | hold => exact Nat.zero_le _
    | look ts => exact h.2.1
    | deed ps ts => exact GoodDo.tfew h
  have l2 : t.parts.length ≤ 4 := by
    cases t with
    | hold => exact Nat.zero_le _
    | look ts => exact Nat.zero_le _
    | deed ps ts => exact GoodDo.few h
  have a1 := flat_len kindsT 6 t.tests fun x m => by
    have g := h.tests x m
    cases x with
    | row ks => have := GoodKs.few g; show ks.length ≤ 6; omega
    | sum o ks sg n => have := GoodKs.few g.1; show ks.length ≤ 6; omega
  have a2 := flat_len (fun p => (toldL p).flatten) 6 t.parts fun x m => by
    have g := h.parts x m
    cases x with
    | join => exact Nat.zero_le _
    | new k => show 1 ≤ 6; decide
    | kinds w ks af =>
      have := GoodKs.few g.1
      show (ks ++ ([af] ++ [])).length ≤ 6
      rw [List.length_append]
      show ks.length + 1 ≤ 6
      omega
    | kind w k af => show 2 ≤ 6; decide
  unfold rawKinds
  rw [List.length_append]
  omega
theorem all_len {ts : List StepD} (h : ∀ t ∈ ts, GoodS t) (hl : ts.length ≤ 6) : (allKinds ts).length ≤ 1000 := by
  have := flat_len stepKinds 100 ts fun t m => Nat.le_trans (List.length_filter_le _ _) (raw_len (h t m))
  unfold allKinds
  omega
theorem empD (z : Str) : Str.empty ++ z = z := by
  cases z with
  | mk a => show Str.mk (#[] ++ a) = Str.mk a; rw [Array.empty_append]
section
variable {P : Program} {w : World} {K : PySem.W.Frag} {mg : Str → Option Value} {base : Heap}
def spShows (C : Addr) : Sp := fun vs H Q _ => ∃ (d l ka : Addr) (nm : Str) (ts : List StepD) (ks : List Str), vs = [.ref d, .str nm, .ref l, .ref ka] ∧ DoorAt C H d nm (ts.map lineS) ts ∧ H l = some (.lst ((ts.map lineS).map V.str)) ∧ H ka = some (.lst (ks.map V.str)) ∧ nm.length ≤ 8 ∧ GoodKs ks ∧ GoodL ts ∧ (∀ t ∈ ts, ∀ z ∈ stepKinds t, z ∈ ks) ∧
  ∀ H', Same H H' → Q (.bl true) H'
end
end Dr

set_option Elab.async false
set_option linter.all false
set_option maxRecDepth 100000
set_option maxHeartbeats 8000000
set_option pp.maxSteps 500
/-! Doors: good doors, the laws' promise. -/
namespace Dr
open PySem L2 Cs
theorem tupKp {H H' : Hp} {p c : Addr} (S : Src H p c) (k : Kp p H H') : TupK H H' := fun a xs e => k _ _ e fun q => by
  obtain ⟨ys, h⟩ := S.at_p
  rw [q, h] at e
  cases e
theorem DoorAt.kp {C : Addr} {H H' : Hp} {p c d : Addr} {nm : Str} {zs : List Str} {ts : List StepD} (S : Src H p c) (k : Kp p H H') (h : DoorAt C H d nm zs ts) : DoorAt C H' d nm zs ts := by
  obtain ⟨dx, L, S', ss, h1, h2, h3, h4⟩ := h
  have t := tupKp S k
  refine ⟨dx, L, S', ss, k _ _ h1 (fun q => ?_), t _ _ h2, t _ _ h3, L2.Paired.mapP h4 fun _ _ h => h.keep t⟩
  obtain ⟨ys, e⟩ := S.at_p
  rw [q, e] at h1
  cases h1
theorem DoorAt.lstUpd {C : Addr} {H : Hp} {d G : Addr} {xs : List V} {o : HO} {nm : Str} {zs : List Str} {ts : List StepD} (hG : H G = some (.lst xs)) (h : DoorAt C H d nm zs ts) : DoorAt C (upd H G o) d nm zs ts := by
  obtain ⟨dx, L, S', ss, h1, h2, h3, h4⟩ := h
  have t := TupK.lst (o := o) hG
  refine ⟨dx, L, S', ss, ?_, t _ _ h2, t _ _ h3, L2.Paired.mapP h4 fun _ _ h => h.keep t⟩
  rw [upd_ne (fun q => by rw [q, hG] at h1; cases h1)]
  exact h1
theorem paired_lines : ∀ {ts : List StepD}, (∀ t ∈ ts, GoodS t) → Paired (fun z t => readLine z = some t) (ts.map lineS) ts
  | [], _ => .nil
  | t :: ts, h => .cons (line_ok (h t List.mem_cons_self)).2 (paired_lines fun x m => h x (List.mem_cons_of_mem _ m))
theorem doorOk {nm : Str} {ts : List StepD} (hn : Word nm) (h : GoodL ts) : DoorOk nm (ts.map lineS) ts :=
  ⟨wordB_of hn, Nat.le_trans hn.2.1 (by decide), fun z m => by obtain ⟨t, mt, rfl⟩ := List.mem_map.mp m; exact (line_ok (h.good t mt)).1, paired_lines h.good, h.few, h.deeds, h.holds, h.cross⟩
def spLawD (K : PySem.W.Frag) : Sp := fun vs H Q _ => ∃ (a : Addr) (ns : List Int), vs = [.ref a] ∧ SqL K H a (ns.map V.int) ∧ ns.length ≤ 63 ∧ ∀ H', Q (.bl true) H'
end Dr

set_option Elab.async false
set_option linter.all false
set_option maxRecDepth 100000
set_option maxHeartbeats 8000000
/-! Doors: how lines begin, what stands in them; good lines that are changed, plain. -/
namespace Dr
open PySem L2 Cs
theorem occ_mid (A y B : Str) (hy : TL.tl y ≠ []) : (!(Builtin.Str.occurrences (A ++ y ++ B) y 0 (A ++ y ++ B).length 1).isEmpty) = true := by
  refine (StrLaws.found_iff _ _).mpr ⟨A.length, ?_⟩
  refine (TL.at_iff hy A.length).mpr ?_
  rw [TL.tl_append, TL.tl_append, List.append_assoc, List.drop_left' (TL.len_tl A).symm]
  show ((TL.tl y ++ TL.tl B).take (TL.tl y).length == TL.tl y) = true
  rw [List.take_left']
  · exact beq_self_eq_true _
  · rfl
theorem tl_cut (z : Str) (n : Nat) : TL.tl (cutS z none (some (n : Int))) = (TL.tl z).take n := by
  unfold cutS
  rw [HT.sIx_nat, HT.sIx_none, List.drop_zero, Nat.sub_zero]
  show List.take (min n z.length) (TL.tl z) = _
  rw [TL.len_tl z]
  by_cases h : n ≤ (TL.tl z).length
  · rw [Nat.min_eq_left h]
  · rw [Nat.min_eq_right (by omega), List.take_length, List.take_of_length_le (by omega)]
theorem cut_eq {z y : Str} {n : Nat} (h : (TL.tl z).take n = TL.tl y) : cutS z none (some (n : Int)) = y := TL.ext_tl ((tl_cut z n).trans h)
theorem deed_head {ps : List PartD} (ts : List TestD) (h : ps ≠ []) : ∃ r, lineS (.deed ps ts) = (("do " : String) : Str) ++ r := by
  cases ts with
  | nil => exact ⟨_, (do_text0 h).symm⟩
  | cons t r => exact ⟨Txt.join " then " (ps.map partS) ++ " if " ++ Txt.join " and " ((t :: r).map testS), by rw [← do_text1 h]; simp only [PySem.Str.append_assoc]⟩
theorem tl_do (r : Str) : TL.tl ((("do " : String) : Str) ++ r) = 100 :: 111 :: 32 :: TL.tl r := by
  rw [TL.tl_append]; rfl
theorem tl_look (r : Str) : TL.tl ((("look " : String) : Str) ++ r) = 108 :: 111 :: 111 :: 107 :: 32 :: TL.tl r := by
  rw [TL.tl_append]; rfl
theorem cut2_do {t : StepD} (h : GoodS t) : cutS (lineS t) none (some 2) = (("do" : String) : Str) ↔ ∃ ps ts, t = .deed ps ts := by
  constructor
  · intro e
    have e : (TL.tl (lineS t)).take 2 = [100, 111] := by
      have q := (tl_cut (lineS t) 2).symm.trans (congrArg TL.tl e)
      exact q
    cases t with
    | hold => rw [hold_line] at e; exact absurd e (by decide +kernel)
    | look ts => rw [← look_text h.1, tl_look] at e; exact absurd (List.cons.inj e).1 (by decide)
    | deed ps ts => exact ⟨ps, ts, rfl⟩
  · rintro ⟨ps, ts, rfl⟩
    obtain ⟨r, e⟩ := deed_head ts (show GoodDo ps ts from h).ne
    refine cut_eq (n := 2) ?_
    rw [e, tl_do]
    rfl
theorem cut4_look {t : StepD} (h : GoodS t) : cutS (lineS t) none (some 4) = (("look" : String) : Str) ↔ ∃ ts, t = .look ts := by
  constructor
  · intro e
    have e : (TL.tl (lineS t)).take 4 = [108, 111, 111, 107] := by
      have q := (tl_cut (lineS t) 4).symm.trans (congrArg TL.tl e)
      exact q
    cases t with
    | hold => rw [hold_line] at e; exact absurd e (by decide +kernel)
    | look ts => exact ⟨ts, rfl⟩
    | deed ps ts =>
      obtain ⟨r, q⟩ := deed_head ts (show GoodDo ps ts from h).ne
      rw [q, tl_do] at e
      exact absurd (List.cons.inj e).1 (by decide)
  · rintro ⟨ts, rfl⟩
    refine cut_eq (n := 4) ?_
    rw [← look_text h.1, tl_look]
    rfl
/-- a do line in which ' if ' does not stand has no tests -/
theorem no_if {ps : List PartD} {ts : List TestD} (h : GoodDo ps ts) (q : (!(Builtin.Str.occurrences (lineS (.deed ps ts)) " if " 0 (lineS (.deed ps ts)).length 1).isEmpty) = false) : ts = [] := by
  cases ts with
  | nil => rfl
  | cons t r =>
    rw [← do_text1 h.ne, occ_mid _ _ _ (by decide +kernel)] at q
    cases q
def lessT (k : Str) (n : Int) : TestD := .sum false [k] "<" n
theorem if_text {ps : List PartD} {k : Str} (h : ps ≠ []) : lineS (.deed ps []) ++ " if " ++ k ++ " < 9" = lineS (.deed ps [lessT k 9]) := by
  rw [← do_text0 h, ← do_text1 h]
  have e : testS (lessT k 9) = k ++ " < 9" := by
    show Txt.join " " ([] ++ ([k] ++ [(("<" : String) : Str), ntS 9])) = _
    rw [TL.join_eq]
    show k ++ " " ++ ((("<" : String) : Str) ++ " " ++ ntS 9) = _
    rw [PySem.Str.append_assoc]
    congr 1
  show _ = _ ++ _ ++ Txt.join " and " [testS (lessT k 9)]
  rw [TL.join_eq, e]
  show _ = _ ++ (k ++ " < 9")
  simp only [PySem.Str.append_assoc]
theorem goodK1 {k : Str} (h : kindB k = true) : GoodKs [k] := ⟨by simp, by simp, fun z m => by rw [List.mem_singleton.mp m]; exact h, by show 1 ≤ 5; decide⟩
theorem good_if {ps : List PartD} {k : Str} (h : GoodDo ps []) (hk : kindB k = true) : GoodDo ps [lessT k 9] :=
  ⟨h.ne, h.few, h.gp, by show 1 ≤ 4; decide, fun t m => by rw [List.mem_singleton.mp m]; exact ⟨goodK1 hk, by decide +kernel, by decide, by decide⟩, h.rg, h.cr, fun e => by cases e.2⟩
theorem good_new {k : Str} (hk : kindB k = true) : GoodDo [.new k] [] :=
  ⟨by simp, by show 1 ≤ 4; decide, fun p m => by rw [List.mem_singleton.mp m]; exact hk, by show 0 ≤ 4; decide, fun t m => (by cases m), by show cntIn [(("new" : String) : Str)] RG ≤ 1; decide +kernel, by show cntIn [(("new" : String) : Str)] CROSS ≤ 1; decide +kernel, fun e => by cases e.2⟩
theorem new_line {k : Str} : (("do new " : String) : Str) ++ k = lineS (.deed [.new k] []) := by
  rw [← do_text0 (by simp)]
  show _ = _ ++ Txt.join " then " [partS (.new k)]
  rw [TL.join_eq]
  show _ = (("do " : String) : Str) ++ Txt.join " " [(("new" : String) : Str), k]
  rw [TL.join_eq]
  show _ = (("do " : String) : Str) ++ ((("new" : String) : Str) ++ " " ++ k)
  rw [← PySem.Str.append_assoc, ← PySem.Str.append_assoc]
  rfl
theorem row_line {k : Str} : (("look row " : String) : Str) ++ k = lineS (.look [.row [k]]) := by
  rw [← look_text (by simp)]
  show _ = _ ++ Txt.join " and " [testS (.row [k])]
  rw [TL.join_eq]
  show _ = (("look " : String) : Str) ++ Txt.join " " [(("row" : String) : Str), k]
  rw [TL.join_eq]
  show _ = (("look " : String) : Str) ++ ((("row" : String) : Str) ++ " " ++ k)
  rw [← PySem.Str.append_assoc, ← PySem.Str.append_assoc]
  rfl
theorem good_row {k : Str} (hk : kindB k = true) : GoodS (.look [.row [k]]) :=
  ⟨by simp, by show 1 ≤ 4; decide, fun t m => by rw [List.mem_singleton.mp m]; exact goodK1 hk, rfl⟩
/-! good lines, changed -/
theorem cnt_map_app {α : Type} (f : α → Str) (a b : List α) (ws : List Str) : cntIn ((a ++ b).map f) ws = cntIn (a.map f) ws + cntIn (b.map f) ws := by
  unfold cntIn
  rw [List.map_append, List.filter_append, List.length_append]
theorem cnt_perm {a b : List Str} (h : a.Perm b) (ws : List Str) : cntIn a ws = cntIn b ws := (h.filter _).length_eq
theorem GoodL.perm {a b : List StepD} (h : GoodL a) (p : a.Perm b) : GoodL b :=
  ⟨fun t m => h.good t (p.mem_iff.mpr m), by rw [← p.length_eq]; exact h.few, by rw [← cnt_perm (p.map _)]; exact h.deeds, by rw [← cnt_perm (p.map _)]; exact h.holds, by rw [← (p.filter _).length_eq]; exact h.cross⟩
theorem GoodL.insert {ts : List StepD} {k : Str} (n : Nat) (h : GoodL ts) (hl : ts.length < 6) (hk : kindB k = true) : GoodL (ts.take n ++ .deed [.new k] [] :: ts.drop n) := by
  have h2 : GoodL (.deed [.new k] [] :: ts) := by
    refine ⟨fun t m => ?_, by rw [List.length_cons]; omega, ?_, ?_, ?_⟩
    · rcases List.mem_cons.mp m with e | e
      · rw [e]; exact good_new hk
      · exact h.good t e
    · have e := cnt_map_app StepD.word [.deed [.new k] []] ts ["do"]
      have d := h.deeds
      show cntIn (([StepD.deed [.new k] []] ++ ts).map StepD.word) ["do"] ≠ 0
      omega
    · have e := cnt_map_app StepD.word [.deed [.new k] []] ts ["hold"]
      have d := h.holds
      have z : cntIn ([StepD.deed [.new k] []].map StepD.word) ["hold"] = 0 := by show cntIn [(("do" : String) : Str)] ["hold"] = 0; decide +kernel
      show cntIn (([StepD.deed [.new k] []] ++ ts).map StepD.word) ["hold"] ≤ 1
      omega
    · have z : touchB (.deed [.new k] []) = false := by show decide (0 < cntIn [(("new" : String) : Str)] CROSS) = false; decide +kernel
      rw [List.filter_cons, if_neg (by rw [z]; decide)]
      exact h.cross
  refine h2.perm ?_
  refine List.Perm.trans ?_ List.perm_middle.symm
  rw [List.take_append_drop]
theorem map_set_same {α β : Type} (f : α → β) {xs : List α} {n : Nat} {x y : α} (h : xs[n]? = some x) (e : f y = f x) : (xs.set n y).map f = xs.map f := by
  rw [List.map_set, e]
  refine List.ext_getElem? fun i => ?_
  rw [List.getElem?_set]
  split
  · next q =>
    subst q
    rw [List.getElem?_map, h]
    obtain ⟨l, _⟩ := List.getElem?_eq_some_iff.mp h
    rw [if_pos (by rw [List.length_map]; exact l)]
    rfl
  · rfl
theorem filter_map_len {α : Type} (f : α → Bool) (xs : List α) : (xs.filter f).length = ((xs.map f).filter id).length := by
  rw [List.filter_map, List.length_map]
  rfl
theorem GoodL.set {ts : List StepD} {n : Nat} {x y : StepD} (h : GoodL ts) (e : ts[n]? = some x) (g : GoodS y) (hw : y.word = x.word) (ht : touchB y = touchB x) : GoodL (ts.set n y) := by
  have w := map_set_same StepD.word e hw
  have t := map_set_same touchB e ht
  refine ⟨fun z m => ?_, by rw [List.length_set]; exact h.few, by rw [w]; exact h.deeds, by rw [w]; exact h.holds, by rw [filter_map_len, t, ← filter_map_len]; exact h.cross⟩
  rcases List.mem_or_eq_of_mem_set m with q | q
  · exact h.good z q
  · rw [q]; exact g
/-! texts without a line feed -/
theorem word_nl {z : Str} (h : Word z) : 10 ∉ TL.tl z := fun m => absurd (h.2.2 10 m) (by decide +kernel)
theorem kind_nl {z : Str} (h : kindB z = true) : 10 ∉ TL.tl z := by
  unfold kindB at h
  rw [Bool.and_eq_true] at h
  exact word_nl (word_of h.1)
theorem lit_nl : ∀ z ∈ PLAIN ++ RES, 10 ∉ TL.tl z := by
  have key : ∀ z ∈ PLAIN ++ RES, decide (10 ∉ TL.tl z) = true := by decide +kernel
  exact fun z m => of_decide_eq_true (key z m)
theorem dig_nl {n : Int} (h0 : 0 ≤ n) (h9 : n ≤ 9) : 10 ∉ TL.tl (ntS n) := by
  obtain ⟨d, rfl⟩ := Int.eq_ofNat_of_zero_le h0
  exact of_decide_eq_true ((show ∀ d : Nat, d < 10 → decide (10 ∉ TL.tl (ntS (d : Int))) = true by decide +kernel) d (by omega))
theorem tokL_nl {t : StepD} (h : GoodS t) : ∀ z ∈ tokL t, 10 ∉ TL.tl z := by
  intro z m
  have pl : z ∈ PLAIN → 10 ∉ TL.tl z := fun q => lit_nl z (List.mem_append_left _ q)
  have rs : z ∈ RES → 10 ∉ TL.tl z := fun q => lit_nl z (List.mem_append_right _ q)
  rcases tokL_mem m with ⟨x, mx, e⟩ | ⟨p, mp, e⟩ | e
  · rcases tokT_mem (h.tests x mx) e with e | ⟨e, _⟩ | e | ⟨n, h0, h9, e⟩
    · exact kind_nl (kindsT_kd (h.tests x mx) e)
    · exact rs (by rw [e]; decide +kernel)
    · exact pl e
    · rw [e]; exact dig_nl h0 h9
  · rcases tokP_mem e with e | e | e
    · rcases told_res (h.parts p mp) e with q | q
      · exact kind_nl q
      · exact rs (by rw [q]; decide +kernel)
    · exact rs (e ▸ part_word (h.parts p mp))
    · exact pl e
  · exact pl e
theorem join_nl {zs : List Str} (h : ∀ z ∈ zs, 10 ∉ TL.tl z) : 10 ∉ TL.tl (Str.join " " zs) := by
  induction zs with
  | nil => decide +kernel
  | cons x r ih =>
    have hx := h x List.mem_cons_self
    have ih := ih fun z m => h z (List.mem_cons_of_mem _ m)
    cases r with
    | nil => exact hx
    | cons y r =>
      rw [joinS_consD, TL.tl_append, TL.tl_append]
      intro m
      rcases List.mem_append.mp m with m | m
      · rcases List.mem_append.mp m with m | m
        · exact hx m
        · exact absurd m (by decide +kernel)
      · exact ih m
theorem line_nl {t : StepD} (h : GoodS t) : 10 ∉ TL.tl (lineS t) := by
  unfold lineS
  rw [TL.join_eq]
  exact join_nl (tokL_nl h)
/-- written doors tell names and lines -/
theorem doorS_inj {nm nm2 : Str} {zs ws : List Str} (hn : 10 ∉ TL.tl nm) (hn2 : 10 ∉ TL.tl nm2) (hz : ∀ z ∈ zs, 10 ∉ TL.tl z) (hw : ∀ z ∈ ws, 10 ∉ TL.tl z) : doorS nm zs = doorS nm2 ws ↔ nm = nm2 ∧ zs = ws := by
  constructor
  · intro e
    have head : ∀ m : Str, 10 ∉ TL.tl m → 10 ∉ TL.tl (Str.empty ++ "door " ++ m) := fun m h q => by
      rw [TL.tl_append, TL.tl_append] at q
      rcases List.mem_append.mp q with q | q
      · exact absurd q (by decide +kernel)
      · exact h q
    have sp : ∀ (m : Str) (xs : List Str), 10 ∉ TL.tl m → (∀ z ∈ xs, 10 ∉ TL.tl z) → Txt.split (doorS m xs) "\n" = (Str.empty ++ "door " ++ m) :: xs := fun m xs h1 h2 =>
      TL.split_join (s := 10) (S := []) (by decide +kernel) (by decide +kernel) (by simp) fun p q => by
        rcases List.mem_cons.mp q with q | q
        · rw [q]; exact head m h1
        · exact h2 p q
    have e2 := (sp nm zs hn hz).symm.trans ((congrArg (fun x => Txt.split x "\n") e).trans (sp nm2 ws hn2 hw))
    obtain ⟨e3, e4⟩ := List.cons.inj e2
    refine ⟨?_, e4⟩
    have e5 := congrArg TL.tl e3
    rw [TL.tl_append, TL.tl_append (Str.empty ++ "door ") nm2] at e5
    exact TL.ext_tl (List.append_cancel_left e5)
  · rintro ⟨rfl, rfl⟩
    rfl
end Dr

set_option Elab.async false
set_option linter.all false
set_option maxRecDepth 100000
set_option maxHeartbeats 4000000
/-! Own errors with one field. -/
namespace Cs
open PySem PySem.Spec PyProof.Rows L2
/-- __init__ of an own error: self.fld = y -/
def spXi (C : Addr) (fld : Str) : Sp := fun vs H Q _ => ∃ (a : Addr) (y : V), vs = [.ref a, y] ∧ H a = some (exo a C none) ∧ ∀ dx, H dx = none → dx ≠ a → Q .non (upd (upd H dx (exd dx [(fld, y)])) a (exo a C (some dx)))
theorem upd_back {H : Hp} {a dx : Addr} {o1 o2 o3 o4 : HO} (ha : H a = none) (n : dx ≠ a) : upd (del (upd (upd (upd H a o1) dx o2) a o3) a) dx o4 = upd H dx o4 := by
  funext b
  by_cases c : b = dx
  · subst c
    rw [upd_same, upd_same]
  · rw [upd_ne c, upd_ne c]
    by_cases e : b = a
    · subst e
      rw [del_same, ha]
    · rw [del_ne e, upd_ne e, upd_ne c, upd_ne e]
theorem xmk {C : Addr} {fld : Str} {y : V} {H1 : Hp} {Q : XK} (k : ∀ dx, H1 dx = none → Q (.ref C) (some dx) (upd H1 dx (.xd [(fld, y)]))) :
    ([y] : List V).length ≤ 1000 ∧ ∀ a, H1 a = none → spXi C fld (.ref a :: ([y] ++ [])) (upd H1 a (exo a C none)) (fun v H2 => v = .non ∧ ∃ (d : Addr) (fs : List (Str × V)), H2 a = some (exo a C (some d)) ∧ H2 d = some (exd d fs) ∧ H1 d = none ∧ Q (.ref C) (some d) (upd (del H2 a) d (.xd fs))) (fun _ _ _ => False) := by
  refine ⟨by show 1 ≤ 1000; decide, fun a ha => ⟨a, y, rfl, upd_same, fun dx hdx ne => ⟨rfl, dx, _, upd_same, by rw [upd_ne ne]; exact upd_same, ?_, ?_⟩⟩⟩
  · rw [upd_ne ne] at hdx
    exact hdx
  · rw [upd_back ha ne]
    exact k dx (by rw [upd_ne ne] at hdx; exact hdx)
/-- an error of the class at S is caught by its own name -/
theorem exm_self {K : PySem.W.Frag} {S : Addr} (h1 : PySem.W.subIn K (.ref S) (.type "BaseException") = some true) (h2 : PySem.W.isClsIn K S = true) (h3 : PySem.W.typeIn K (.ref S) = some (.type "type")) (h4 : PySem.W.subIn K (.ref S) (.ref S) = some true) : PySem.W.exmOne K (.ref S) (.ref S) = some true := by
  have h2' : (PySem.W.clsIn K S).isSome = true := h2
  unfold PySem.W.exmOne PySem.W.kitCls
  simp [h1, h2', h3, h4]
/-- an own error as those have it that raise it -/
structure XDef (P : Program) (w : World) (K : PySem.W.Frag) (mg : Str → Option Value) (base : Heap) (x : Str) (C fI : Addr) (fld : Str) (ps : List Str) (fd : FuncData) : Prop where
  c : OexC K C
  iC : PySem.W.findIn K (.ref C) "__init__" = some (some (.ref fI))
  tI : PySem.W.typeIn K (.ref fI) = some (.type "function")
  ok : FnOk P w K mg base CX0 1 fI fd ps (spXi C fld)
  b : Binds K fd ps []
  mg_ : mg x = some (.ref C)
  te : PySem.W.exmOne K (.ref C) (.ref C) = some true
end Cs

set_option Elab.async false
set_option linter.all false
set_option maxRecDepth 100000
set_option maxHeartbeats 4000000
/-! isinstance(e, C) of a caught error that has its own dict; defs that let nothing out after all. -/
namespace Cs
open PySem PySem.Spec PyProof.Rows L2
section
variable {prog : Program} {w : World} {A : Around} {E : Value → Shared → Prop} {s : Shared} {K : PySem.W.Frag} {x D : Addr} {ox od : Obj}
/-- e.__class__ of an error with a dict -/
theorem exd_class {Q : Option Value → Shared → Prop} (C : ExcC K D) (X : K.In s.heap) (I : PySem.W.InstAt s.heap x ox D (some od)) (h : Q (some (.ref D)) { s with toks := s.toks + 1 }) : wpAny (model prog w) A (getAttr? (.ref x) "__class__") Q E s := by
  have hf : PySem.W.findObj K D (some od) "__class__" = some (.bind (.builtin "getset_descriptor.__get__") (.builtin "object.__class__")) := PySem.W.findObj_data (by obtain ⟨cd, hc, _⟩ := PySem.W.any_some C.hd; rw [hc]; rfl) C.ha C.hn C.ht
  obtain ⟨hp, g, d, t, os⟩ := s
  have T0 := I.type (M := model prog w)
  have T1 := PySem.W.looks_findIn (M := model prog w) X C.hg
  have T2 := PySem.W.looks_findIn (M := model prog w) X C.hk
  have T3 := PySem.W.looks_find (M := model prog w) X I hf
  have up : PySem.W.Looks (model prog w) hp (isInstance (.ref x) (.type "BaseException")) true := T0.andThen (PySem.W.looks_subIn X C.hs)
  have e2 : (Value.builtin "BaseException.__getattribute__" == Value.builtin "object.__getattribute__") = false := by decide +kernel
  have e1 : (onTheHeap (Value.ref D) && Value.builtin "BaseException.__getattribute__" == Value.builtin "object.__getattribute__") = false := by rw [e2]; rfl
  unfold getAttr?; unfold getAttrBy?; unfold getAttrBy
  refine wpAny_bind (wpAny_mkText (wpAny_bind (wpAny_attempt (wpAny_holding (wpAny_bind (T0.at (wpAny_bind (T1.at ?_))))))))
  show wpAny _ _ (if (onTheHeap (Value.ref D) && Value.builtin "BaseException.__getattribute__" == Value.builtin "object.__getattribute__") = true then _ else _) _ _ _
  rw [e1, if_neg Bool.false_ne_true]; unfold getAttrByItsOwn; unfold hookBefore
  refine wpAny_bind ?_; rw [if_pos (show onTheHeap (Value.ref D) = true from rfl)]
  refine T2.at (wpAny_bind (wpAny_attempt (wpAny_holding ?_)))
  unfold callGetattribute; rw [show (false && onTheHeap (Value.builtin "BaseException.__getattribute__")) = false from rfl, if_neg Bool.false_ne_true]; unfold boundAndCalled
  rw [PySem.F.excAttr_ValueError.ga.bind (.ref x)]; refine wpAny_bind (wpAny_pure ?_)
  show wpAny _ _ (call (.builtin "BaseException.__getattribute__") [.ref x, .str "__class__" t]) _ _ _
  refine wpAny_call (codeAny_call_builtin PySem.F.excAttr_ValueError.ga.plain PySem.F.entry_bexc_ga (@PySem.W.check_slot (model prog w) _ _ ⟨hp, g, d, t + 1, os⟩ "BaseException.__getattribute__" "BaseException" "__getattribute__" (.ref x) [.str "__class__" t] [] _ (by decide +kernel) (by decide +kernel) up (PySem.F.args_bexc_ga (.ref x) (.str "__class__" t)) ?_))
  unfold Builtin.«object.__getattribute__»; refine wpAny_bind (wpAny_of_eq (a := ((Value.ref x : Value), [Value.str "__class__" t])) (by first | rfl | (simp only [slotArgs]; rfl)) ?_)
  refine wpAny_bind (wpAny_pure (wpAny_bind (T0.at (wpAny_bind (T3.at ?_))))); show wpAny _ _ (holding [Value.builtin "object.__class__"] (call (.builtin "getset_descriptor.__get__") [.builtin "object.__class__", .ref x, .ref D]) >>= ret) _ _ _
  refine wpAny_bind (wpAny_holding (wpAny_call (PySem.W.class_get (s := ⟨hp, g, d, t + 1, os⟩) (ox := ox) (od := some od) X I C.hm (wpAny_pure ?_)))); show wpAny _ _ (handedOut (.ref D)) _ _ _
  rw [PySem.W.handedOut_of (v := .ref D) rfl]; first | exact wpAny_pure (wpAny_pure h) | exact wpAny_pure h | exact wpAny_pure (wpAny_bind (wpAny_pure (wpAny_pure h)))
theorem exd_kit (C : ExcC K D) : PySem.W.KitX K (.ref x) (.ref D) (fun h => PySem.W.InstAt h x ox D (some od)) := by
  have hc : ∃ c' d' cd' sl', K.lookup D = some ⟨c', d', .cls cd', sl'⟩ := by
    obtain ⟨cdD, hcD, _⟩ := PySem.W.any_some C.hd
    unfold PySem.W.clsIn at hcD
    split at hcD
    · rename_i c' d' cd' sl' ho
      exact ⟨c', d', _, sl', ho⟩
    · cases hcD
  obtain ⟨c', d', cd', sl', ho⟩ := hc
  have h3 : ∀ (h : Heap) (tp : Addr) (dd : Option Addr) (its : Array Value) (n : Nat) (sl : Array (Option Value)), K.In h → h.get? tp = some ⟨.type "tuple", dd, .seq its n, sl⟩ → (Value.ref D == Value.ref tp) = false := fun h tp dd its n sl X htp => by
    refine Bool.eq_false_iff.mpr fun q => ?_
    have e : D = tp := Value.ref.inj (beq_iff_eq.mp q)
    subst e
    have z := (X _ _ ho).symm.trans htp
    cases z
  refine ⟨fun _ _ _ I => I.type, fun _ _ X _ A1 Q1 E1 s1 k q => ?_, fun h tp dd its => h3 h tp dd its.toArray, fun X I k => exd_class C X I k⟩
  unfold isType; unfold loadHead; exact wpAny_bind (wpAny_loadPart (k _ _ (X _ _ ho)) (wpAny_pure q))
end
/-- isinstance(e, c), e the error that the suite holds -/
def rIsD (K : PySem.W.Frag) (a : Addr) (cls : Value) (d : Option Addr) : List V → Hp → VK → Prop := fun xs H Q => ∃ (D dd : Addr) (fs : List (Str × V)) (c : V) (cv : Value) (b : Bool), ExcC K D ∧ cls = .ref D ∧ d = some dd ∧ H dd = some (.xd fs) ∧ xs = [.ref a, c] ∧ (∀ u, RelV c u → u = cv) ∧ PySem.W.kitOne K (.ref D) cv = some b ∧ Q (.bl b) H
theorem call_isD {X : Cx} {a : Addr} {oe : Obj} {cls : Value} {d : Option Addr} {pn : List (Addr × Obj)} (hz : Zc cls d oe) (hf : ∃ vs, oe.data = .fields vs) : CallR (X.suite a ((a, oe) :: pn)) (.builtin "isinstance") (rIsD X.K a cls d) := by
  intro pins s σ H xs us Q I r h
  obtain ⟨D, dd, fs, c, cv, b, C, rfl, rfl, hdd, rfl, hcv, e, q⟩ := h
  cases r with
  | cons rx rr =>
    cases rr with
    | cons rt rr =>
      cases rr
      cases rx
      have ec := hcv _ rt
      subst ec
      obtain ⟨hget, _⟩ := I.pin (a, oe) (List.mem_append.mpr (.inl List.mem_cons_self))
      obtain ⟨vs, hv⟩ := hf
      have hx : ObjOk X.prog X.w H s.heap dd (.xd fs) := I.hok dd _ hdd
      obtain ⟨mA, hns, hr⟩ := hx
      obtain ⟨od, ho, hl⟩ := lookIn_ns hns
      have J : PySem.W.InstAt s.heap a oe D (some od) := ⟨hget, hz.1, by unfold PySem.W.notCls; rw [hv] <;> rfl, by rw [hz.2]; exact ho⟩
      exact PySem.W.kia_one (exd_kit C) I.kIn J e (fun z => nomatch z) fun tk => ⟨.bl b, H, I.kept (t' := tk) fun _ _ z => z, rfl, q⟩
/-- a def whose promise lets nothing out -/
theorem FnR.calm {P : Program} {w : World} {K : PySem.W.Frag} {mg : Str → Option Value} {base : Heap} {k : Nat} {f : Addr} {sp : Sp} (F : FnR P w K mg base (L2.CX P w) k f sp) : FnR P w K mg base CX0 k f (fun vs H Q _ => sp vs H Q fun _ _ _ => False) := by
  intro A outer s H us vs Q E hr e0 r hs
  refine codeAny_mono (F A outer s H us vs Q _ hr e0 r hs) fun r s' h => ?_
  cases r with
  | ok fl => cases fl <;> exact h
  | error e =>
    obtain ⟨_, _, _, _, _, _, _, _, _, _, _, _, z⟩ := h
    exact z.elim
theorem FnOk.calm {P : Program} {w : World} {K : PySem.W.Frag} {mg : Str → Option Value} {base : Heap} {k : Nat} {f : Addr} {fd : FuncData} {ps : List Str} {sp : Sp} (F : FnOk P w K mg base (L2.CX P w) k f fd ps sp) : FnOk P w K mg base CX0 k f fd ps (fun vs H Q _ => sp vs H Q fun _ _ _ => False) := by
  refine ⟨fun vs H Q E h => F.len vs H Q _ h, fun A outer s H args us vs Q E hr e0 b r hs => ?_⟩
  refine codeAny_mono (F.run A outer s H args us vs Q _ hr e0 b r hs) fun r s' h => ?_
  cases r with
  | ok fl => cases fl <;> exact h
  | error e =>
    obtain ⟨_, _, _, _, _, _, _, _, _, _, _, _, z⟩ := h
    exact z.elim
end Cs

set_option Elab.async false
set_option linter.all false
set_option maxRecDepth 100000
set_option maxHeartbeats 8000000
set_option pp.maxSteps 600
/-! Doors: Door.__init__ of any values. -/
namespace Dr
open PySem L2 Cs
/-- a value that is no text -/
inductive VL (H : Hp) : V → Prop where
  | non : VL H .non
  | bl (b : Bool) : VL H (.bl b)
  | int (n : Int) : VL H (.int n)
  | lst {a : Addr} {xs : List V} (h : H a = some (.lst xs)) : VL H (.ref a)
  | tup {a : Addr} {xs : List V} (h : H a = some (.tup xs)) : VL H (.ref a)
theorem nil_itD {σ : L2.St} {H : Hp} {k : List V → Hp → Prop} (h : k [] H) : tNil σ H k := h
theorem VL.same {H H' : Hp} {v : V} (s : Same H H') (h : VL H v) : VL H' v := by
  cases h with
  | non => exact .non
  | bl b => exact .bl b
  | int n => exact .int n
  | lst h => exact .lst (s _ _ h)
  | tup h => exact .tup (s _ _ h)
theorem VL.ty {K : PySem.W.Frag} {H : Hp} {v : V} (h : VL H v) : ∃ ty, TyX K H v (.type ty) ∧ kitB ty "str" = some false := by
  cases h with
  | non => exact ⟨"NoneType", .base .non, by decide +kernel⟩
  | bl b => exact ⟨"bool", .base (.bl b), by decide +kernel⟩
  | int n => exact ⟨"int", .base (.int n), by decide +kernel⟩
  | lst h => exact ⟨"list", .base (.lst h), by decide +kernel⟩
  | tup h => exact ⟨"tuple", .base (.tup h), by decide +kernel⟩
/-- a line of any kind, and what it is read as -/
def LnE (H : Hp) (v : V) (o : Option StepD) : Prop := (∃ z, v = .str z ∧ LineOk z ∧ readLine z = o) ∨ (o = none ∧ VL H v)
/-- a name of any kind, and whether it is a word -/
def NmE (H : Hp) (v : V) (b : Bool) : Prop := (∃ z : Str, v = .str z ∧ z.length ≤ 100000 ∧ wordB z = b) ∨ (b = false ∧ VL H v)
theorem LnE.same {H H' : Hp} {v : V} {o : Option StepD} (s : Same H H') (h : LnE H v o) : LnE H' v o := h.imp (fun q => q) fun q => ⟨q.1, q.2.same s⟩
theorem NmE.same {H H' : Hp} {v : V} {b : Bool} (s : Same H H') (h : NmE H v b) : NmE H' v b := h.imp (fun q => q) fun q => ⟨q.1, q.2.same s⟩
theorem NmE.ask {K : PySem.W.Frag} {H : Hp} {v : V} {b : Bool} {Q : VK} {E : XK} (h : NmE H v b) (q : ∀ H', Same H H' → Q (.bl b) H') : spIsWord K [v] H Q E := by
  rcases h with ⟨z, rfl, hl, rfl⟩ | ⟨rfl, h⟩
  · exact .inl ⟨z, rfl, hl, q⟩
  · obtain ⟨ty, h1, h2⟩ := h.ty (K := K)
    exact .inr ⟨v, ty, rfl, h1, h2, q _ (Same.refl H)⟩
theorem LnE.ask {K : PySem.W.Frag} {H : Hp} {v : V} {o : Option StepD} {Q : VK} {E : XK} (h : LnE H v o) (q0 : o = none → ∀ H', Same H H' → Q .non H') (q1 : ∀ t, o = some t → ∀ u H', Same H H' → StepAt H' u t → Q u H') : spReadLine K [v] H Q E := by
  rcases h with ⟨z, rfl, hl, rfl⟩ | ⟨rfl, h⟩
  · exact .inl ⟨z, rfl, hl, q0, q1⟩
  · obtain ⟨ty, h1, h2⟩ := h.ty (K := K)
    exact .inr ⟨v, ty, rfl, h1, h2, q0 rfl _ (Same.refl H)⟩
theorem LnE.lens {H : Hp} {v : V} {t : StepD} (h : LnE H v (some t)) : Lens t := by
  rcases h with ⟨z, _, _, e⟩ | ⟨e, _⟩
  · exact readLine_lens e
  · cases e
def badAll (ts : List StepD) : Bool := decide (6 < ts.length) || decide (cntIn (ts.map StepD.word) ["do"] = 0) || decide (1 < cntIn (ts.map StepD.word) ["hold"]) || decide (1 < (ts.filter touchB).length)
def firstNo (os : List (Option StepD)) : Nat := (os.takeWhile Option.isSome).length
/-- what is wrong with a door -/
def fault (b : Bool) (os : List (Option StepD)) : Option Int := if b = false then some (-1) else if os.all Option.isSome = false then some (firstNo os : Nat) else if badAll (os.filterMap id) = true then some (os.length : Nat) else none
theorem firstNo_at {os : List (Option StepD)} {i : Nat} (h : (os.take i).all Option.isSome = true) (e : os[i]? = some none) : firstNo os = i ∧ os.all Option.isSome = false := by
  induction os generalizing i with
  | nil => cases e
  | cons o os ih =>
    cases i with
    | zero =>
      cases e
      exact ⟨rfl, rfl⟩
    | succ i =>
      rw [List.take_succ_cons, List.all_cons, Bool.and_eq_true] at h
      obtain ⟨h1, h2⟩ := ih h.2 e
      unfold firstNo at h1 ⊢
      rw [List.takeWhile_cons, if_pos h.1, List.length_cons, h1, List.all_cons, h2, Bool.and_false]
      exact ⟨rfl, rfl⟩
theorem fault_some {os : List (Option StepD)} {i : Nat} (h : (os.take i).all Option.isSome = true) (e : os[i]? = some none) : fault true os = some (i : Int) := by
  obtain ⟨h1, h2⟩ := firstNo_at h e
  unfold fault
  rw [if_neg (by decide), if_pos h2, h1]
theorem all_take {α : Type} {f : α → Bool} {xs : List α} {i : Nat} {x : α} (h : (xs.take i).all f = true) (e : xs[i]? = some x) (hx : f x = true) : (xs.take (i + 1)).all f = true := by
  rw [List.take_succ, e, List.all_append, h]
  show (true && (f x && true)) = true
  rw [hx]
  rfl
theorem filter_take {os : List (Option StepD)} {i : Nat} {t : StepD} (e : os[i]? = some (some t)) : (os.take (i + 1)).filterMap id = (os.take i).filterMap id ++ [t] := by
  rw [List.take_succ, e, List.filterMap_append]
  rfl
theorem filter_all {os : List (Option StepD)} (h : os.all Option.isSome = true) : os = (os.filterMap id).map some := by
  induction os with
  | nil => rfl
  | cons o os ih =>
    rw [List.all_cons, Bool.and_eq_true] at h
    cases o with
    | none => cases h.1
    | some t =>
      show some t :: os = some t :: (os.filterMap id).map some
      rw [← ih h.2]
/-- BadDoor is raised -/
def BadD (B : Addr) (H : Hp) (i : Int) (E : XK) : Prop := ∀ (H' : Hp) (dd : Addr), Same H H' → H' dd = none → E (.ref B) (some dd) (upd H' dd (.xd [(("at" : Str), .int i)]))
theorem BadD.same {B : Addr} {H H' : Hp} {i : Int} {E : XK} (s : Same H H') (h : BadD B H i E) : BadD B H' i E := fun H2 dd s2 hd => h H2 dd (s.trans s2) hd
def spDoorXB (K : PySem.W.Frag) (B C : Addr) : Sp := fun vs H Q E => ∃ (x dx L : Addr) (nv : V) (b : Bool) (xs : List V) (os : List (Option StepD)), vs = [.ref x, nv, .ref L] ∧ H x = some (.ins C dx []) ∧ H L = some (.tup xs) ∧ xs.length ≤ 100 ∧ NmE H nv b ∧ Paired (LnE H) xs os ∧
  (∀ i, fault b os = some i → BadD B H i E) ∧ (fault b os = none → ∀ H', (∀ b o, H b = some o → b ≠ x → H' b = some o) → Q .non H')
section
variable {P : Program} {w : World} {K : PySem.W.Frag} {mg : Str → Option Value} {base : Heap}
theorem ok_xdoor {B f : Addr} {fd : FuncData} (F : Fun K "__init__" "BadDoor.__init__" s_BadDoor_init f fd) (T : OexC K B) (hno : PySem.W.findIn K (.ref B) "at" = some none) : FnOk P w K mg base CX0 1 f fd ["self", "at"] (spXi B "at") := by
  refine F.ok sc_BadDoor_init (fun vs H Q E h => ?_) (fun cdv A outer s H vs Q E hr h => ?_)
  · obtain ⟨_, _, rfl, _⟩ := h
    rfl
  · obtain ⟨a, y, rfl, ha, k⟩ := h
    refine ⟨_, (pss_one (ps_ost (pv 0) (pv 1))), ?_⟩
    exact ⟨_, rfl, _, rfl, a, B, rfl, T, hno, .inl ⟨ha, fun dx hdx ne => k dx hdx ne⟩⟩
theorem door_bodyX {B C f fIw fRl fHm fSt fSn fX : Addr} {fdIw fdRl fdHm fdSt fdSn fdX : FuncData} {cdv : Value} {A : Around} {outer : List Env} {s : Shared} {H : Hp} {vs : List V} {Q : VK} {E : XK} (g : Bi mg) (nA : mg "any" = none) (DC : DoC K C)
    (FIw : Def P w K mg base CX0 1 "is_word" ["thing"] (spIsWord K) fIw fdIw) (FRl : Def P w K mg base CX0 7 "read_line" ["line"] (spReadLine K) fRl fdRl) (FHm : Def P w K mg base CX0 1 "how_many" ["parts", "words"] (spHowMany K) fHm fdHm)
    (FSt : Def P w K mg base CX0 2 "step_touches" ["step"] spTouches fSt fdSt) (FSn : Def P w K mg base CX0 2 "step_names_row" ["step"] spNamesRow fSn fdSn) (XB : XDef P w K mg base "BadDoor" B fX "at" ["self", "at"] fdX)
    (hr : Room 7 (A.deeper (PyProof.Rows.envOfC "Door.__init__" (defScope s_Door_init) s.heap.objs.size f cdv))) (h : spDoorXB K B C vs H Q E) :
    ∃ t, PSs (cxOf (L2.CX P w) P w K mg base ["self", "name", "lines", "steps", "at", "line", "step", "crossings"] "Door.__init__" (defScope s_Door_init) f cdv A outer s H E) (defBody s_Door_init) t ∧ t { nx := fun _ H' => Q .non H', rt := Q } (L2.start ["self", "name", "lines", "steps", "at", "line", "step", "crossings"] vs) H := by
  obtain ⟨GIw, mIw, _, bIw⟩ := id FIw
  obtain ⟨GRl, mRl, _, bRl⟩ := id FRl
  obtain ⟨GHm, mHm, _, bHm⟩ := id FHm
  obtain ⟨GSt, mSt, _, bSt⟩ := id FSt
  obtain ⟨GSn, mSn, _, bSn⟩ := id FSn
  have hrRl : Room 7 _ := hr
  have hrIw : Room 1 _ := hr.mono (by decide)
  have hrHm : Room 1 _ := hr.mono (by decide)
  have hrX : Room 2 _ := hr.mono (by decide)
  have hrSt : Room 2 _ := hr.mono (by decide)
  have hrSn : Room 2 _ := hr.mono (by decide)
  obtain ⟨x, dx, L, nv, b, xs, os, rfl, hx, hL, hxl, hnv, hls, kE, kO⟩ := h
  refine ⟨_, (pss_cons (ps_if (pt_not (pt_val (pe_call GIw hrIw rfl mIw FIw.kp bIw .nil pass0 (pa_cons (pv 1) pa_nil)))) (pss_one (ps_raise rfl (takes_of rfl rfl rfl rfl) (pmk_oex XB.c XB.iC XB.tI XB.ok hrX XB.b .nil pass0 rfl XB.mg_ (pa_cons (pe_un un_neg pe_int) pa_nil)))) pss_nil)
      (pss_cons (ps_set (i := 3) sc_Door_init.nd rfl (Or.inl rfl) (pe_lst pa_nil))
      (pss_cons (ps_for (passes_of rfl) rfl (pi_enumT (by rfl) g.enumerate (pa_cons (pv 2) pa_nil)) (pg_tup rfl (pgs_cons (pg_name (i := 4) sc_Door_init.nd rfl (Or.inl rfl)) (pgs_cons (pg_name (i := 5) sc_Door_init.nd rfl (Or.inl rfl)) pgs_nil))) (pss_cons (ps_set (i := 6) sc_Door_init.nd rfl (Or.inl rfl) (pe_call GRl hrRl rfl mRl FRl.kp bRl .nil pass0 (pa_cons (pv 5) pa_nil)))
      (pss_cons (ps_if (pt_cmpR op_isN (pv 6) pe_non (nomark _)) (pss_one (ps_raise rfl (takes_of rfl rfl rfl rfl) (pmk_oex XB.c XB.iC XB.tI XB.ok hrX XB.b .nil pass0 rfl XB.mg_ (pa_cons (pv 4) pa_nil)))) pss_nil)
      (pss_one (ps_expr (pe_bm PySem.F.plainAttrs_list PySem.F.slot_list_append PySem.F.type_list_append mt_append (pv 3) (pa_cons (pv 6) pa_nil)))))))
      (C8.pss_cut (ps_set (i := 7) sc_Door_init.nd rfl (Or.inl rfl) (pe_callB call_len (by rfl) g.len PySem.boot_len (pa_cons (pe_lc (own := [("step", 6)]) (g := gName 6)  (by rfl) sc_Door_init.nd (pi_list (pv 3)) (blkOk_by (own := [("step", 6)]) (N := ["self", "name", "lines", "steps", "at", "line", "step", "crossings"]) (sc := defScope s_Door_init) (by decide +kernel)) (fun _ _ _ _ _ => (pg_name (i := 6) sc_Door_init.nd rfl (Or.inl rfl))) (fun _ _ _ _ _ => (pts_one (pt_val (pe_call GSt hrSt rfl mSt FSt.kp bSt .nil pass0 (pa_cons (pv 6) pa_nil))))) (fun _ _ _ _ _ => (pv 6))) pa_nil)))
      (pss_cons (ps_if (PW.pt (pw_or (pt_cmpR op_gt (pe_callB call_len (by rfl) g.len PySem.boot_len (pa_cons (pv 3) pa_nil)) pe_int (nomark _)) (pw_or (pt_cmpR op_eq (pe_call GHm hrHm rfl mHm FHm.kp bHm .nil pass0 (pa_cons (pv 3) (pa_cons (pe_tup (pa_cons pe_str pa_nil)) pa_nil))) pe_int (nomark _)) (pw_or (pt_cmpR op_gt (pe_call GHm hrHm rfl mHm FHm.kp bHm .nil pass0 (pa_cons (pv 3) (pa_cons (pe_tup (pa_cons pe_str pa_nil)) pa_nil))) pe_int (nomark _)) (pw_or1 (pt_cmpR op_gt (pv 7) pe_int (nomark _))))))) (pss_one (ps_raise rfl (takes_of rfl rfl rfl rfl) (pmk_oex XB.c XB.iC XB.tI XB.ok hrX XB.b .nil pass0 rfl XB.mg_ (pa_cons (pe_callB call_len (by rfl) g.len PySem.boot_len (pa_cons (pv 3) pa_nil)) pa_nil)))) pss_nil)
      (pss_cons (ps_fld (pv 0) (pv 1) rfl)
      (pss_cons (ps_fld (pv 0) (pe_callTy call_tuple_of (by rfl) g.tuple (by decide +kernel) (pa_cons (pv 2) pa_nil)) rfl)
      (pss_cons (ps_fld (pv 0) (pe_callTy call_tuple_of (by rfl) g.tuple (by decide +kernel) (pa_cons (pv 3) pa_nil)) rfl)
      (pss_cons (ps_fld (pv 0) (pe_cmpR op_eq (pv 7) pe_int (nomark _)) rfl)
      (pss_one (ps_fld (pv 0) (pe_callB (cr_any rfl) (by rfl) nA (by decide +kernel) (pa_cons (pe_lc (own := [("step", 6)]) (g := gName 6) (te := (tCall spNamesRow _ _ _))  (by rfl) sc_Door_init.nd (pi_list (pv 3)) (blkOk_by (own := [("step", 6)]) (N := ["self", "name", "lines", "steps", "at", "line", "step", "crossings"]) (sc := defScope s_Door_init) (by decide +kernel)) (fun _ _ _ _ _ => (pg_name (i := 6) sc_Door_init.nd rfl (Or.inl rfl))) (fun _ _ _ _ _ => pts_nil) (fun _ _ _ _ _ => (pe_call GSn hrSn rfl mSn FSn.kp bSn .nil pass0 (pa_cons (pv 6) pa_nil)))) pa_nil)) rfl))))))))))), ?_⟩
  have bad : ∀ {H1 : Hp} (i : Int), Same H H1 → BadD B H i E → _ := fun {H1} i s1 hb => xmk (C := B) (fld := "at") (y := .int i) (H1 := H1) (Q := E) fun dd hdd => hb H1 dd s1 hdd
  have hol : xs.length = os.length := hls.length
  refine ⟨_, rfl, nil_itD (hnv.ask fun H1 s1 => ⟨_, rfl, ?_⟩)⟩
  cases b with
  | false => exact iteT ⟨_, rfl, bad (-1) s1 (kE _ rfl)⟩
  | true =>
  refine iteF ?_
  obtain ⟨nm, rfl, hnl, hnw⟩ : ∃ z : Str, nv = .str z ∧ z.length ≤ 100000 ∧ wordB z = true := by
    rcases hnv with h | ⟨h, _⟩
    · exact h
    · cases h
  refine ⟨Nat.zero_le _, fun D hD => ?_⟩
  have hDH := Same.noneN s1 hD
  have s2 := s1.trans (Same.new (o := .lst []) hD)
  have hD2 := upd_same (H := H1) (a := D) (o := .lst [])
  generalize upd H1 D (.lst []) = H2 at s2 hD2 ⊢
  refine ⟨_, rfl, L, _, rfl, SqT.of (s2 _ _ hL), ?_⟩
  refine for_it (walk_enumT (xs := xs)) (fun i σ' H' => ∃ (x4 x5 x6 : Option V) (ss : List V), σ' = [some (.ref x), some (.str nm), some (.ref L), some (.ref D), x4, x5, x6, none] ∧ Same H H' ∧ H' D = some (.lst ss) ∧ (os.take i).all Option.isSome = true ∧ Paired (StepAt H') ss ((os.take i).filterMap id)) ⟨_, _, _, [], rfl, s2, hD2, rfl, .nil⟩ (fun i σ' H' _ ⟨_, _, _, _, _, h, _⟩ => SqT.of (h _ _ hL)) ?_ ?_
  · rintro i v σ' H' H3 hi ⟨x4, x5, x6, ss, rfl, s', hD', hall, hss⟩ ⟨T2, a1, y, rfl, hT2, rfl, ex, ey⟩
    obtain rfl : V.int (i : Nat) = a1 := Option.some.inj ex
    dsimp only at ey
    obtain ⟨o, ho, hlo⟩ := paired_get hls ey
    have sT : Same H' (upd H' T2 (.tup [.int (i : Nat), y])) := Same.new hT2
    refine ⟨T2, _, rfl, SqT.of upd_same, rfl, _, _, rfl, _, _, rfl, rfl, ?_⟩
    refine ⟨_, rfl, nil_itD ((hlo.same (s'.trans sT)).ask (fun e H4 s4 => ?_) (fun t e v H4 s4 hv => ?_))⟩
    · subst e
      refine ⟨_, rfl, rfl, true, congrArg V.bl (decide_eq_true rfl), iteT ⟨_, rfl, bad (i : Nat) ((s'.trans sT).trans s4) (kE _ (fault_some hall ho))⟩⟩
    · subst e
      refine ⟨_, rfl, rfl, false, congrArg V.bl (decide_eq_false hv.ne), iteF ?_⟩
      have s5 := sT.trans s4
      have hD4 := s5 _ _ hD'
      have hsl : ss.length ≤ 100 := by
        have h1 := paired_lenD hss
        have h2 := List.length_filterMap_le id (os.take i)
        rw [List.length_take] at h2
        omega
      refine ⟨_, rfl, .inl ⟨rfl, _, SqL.of hD4⟩, _, rfl, D, _, _, rfl, rfl, hD4, Nat.lt_of_le_of_lt hsl (by decide), ?_⟩
      have tk := TupK.lst (o := .lst (ss ++ [v])) hD4
      refine ⟨_, _, _, ss ++ [v], rfl, Same.updN (s'.trans s5) hDH, upd_same, all_take hall ho rfl, ?_⟩
      rw [filter_take ho]
      exact paired_snoc (L2.Paired.mapP hss fun _ _ h => (h.keep (.of s5)).keep tk) (hv.keep tk)
  rintro σ' H3 ⟨x4, x5, x6, ss, rfl, s3, hD3, hall, hss⟩
  rw [hol, List.take_length] at hall hss
  have eos := filter_all hall
  generalize hts : os.filterMap id = ts at hss eos
  have hsl : ss.length = ts.length := paired_lenD hss
  have tsl : ts.length = os.length := by rw [eos, List.length_map]
  have lens : ∀ (i : Nat) (t : StepD), ts[i]? = some t → Lens t := fun i t ht => by
    have e : os[i]? = some (some t) := by rw [eos, List.getElem?_map, ht]; rfl
    have hi := (List.getElem?_eq_some_iff.mp e).1
    obtain ⟨o, ho, hlo⟩ := paired_get hls (List.getElem?_eq_getElem (show i < xs.length by omega))
    rw [e] at ho
    obtain rfl := Option.some.inj ho
    exact hlo.lens
  have hf0 : fault true os = if badAll ts = true then some (os.length : Int) else none := by
    unfold fault
    rw [if_neg (by decide), if_neg (by rw [hall]; decide), hts]
  have hds : HdAt H3 ss (ts.map StepD.word) := hd_of (fun _ _ _ h => StepAt.hd h) hss
  refine ⟨fun σ' H' => σ' = [some (.ref x), some (.str nm), some (.ref L), some (.ref D), x4, x5, x6, some (.int ((ts.filter touchB).length : Nat))] ∧ Same H3 H', ?_, ?_⟩
  · refine ⟨_, rfl, D, rfl, ⟨_, SqL.of hD3⟩, fun E1 hE1 => lc_fil (walk_list (xs := ss)) (okOf ts touchB) (vlOf ss fun v => v) hE1 (by omega) (fun H2 s2 => SqL.of (s2 _ _ hD3)) ?_ ?_⟩
    · rintro i v Ha Hb hi sa ⟨rfl, hv⟩ N1 N0 h1 h0
      obtain ⟨t, ht, hvt⟩ := paired_get hss hv
      have e1 : okOf ts touchB i = touchB t := by unfold okOf; rw [ht]
      have e2 : vlOf ss (fun v => v) i = v := by unfold vlOf; rw [hv]
      rw [e1] at h1 h0
      rw [e2] at h1
      refine ⟨rfl, _, rfl, v, t, rfl, hvt.keep (.of sa), lens i t ht, fun H5 s5 => ⟨_, rfl, ?_⟩⟩
      cases c : touchB t with
      | true => exact iteT ⟨_, rfl, h1 c _ s5⟩
      | false => exact iteF (h0 c _ s5)
    · intro H4 s4 hE4
      refine ⟨_, _, rfl, .inl ⟨_, SqL.of hE4, rfl⟩, ?_⟩
      rw [hsl, fil_count]
      exact ⟨rfl, s4⟩
  rintro σ' H4 ⟨rfl, s4⟩
  have hD4 := s4 _ _ hD3
  have is0 : ∀ n : Nat, decide (V.int (n : Int) = V.int 0) = decide (n = 0) := fun n => by congr 1; exact propext ⟨fun e => by have := V.int.inj e; omega, fun e => by rw [e]; rfl⟩
  have s04 := s3.trans s4
  have hE : badAll ts = true → BadD B H ((ss.length : Nat) : Int) E := fun h => kE _ (by rw [hf0, if_pos h, hsl, tsl])
  by_cases c1 : 6 < ts.length
  · refine ⟨_, rfl, _, _, rfl, .inl ⟨_, SqL.of hD4, rfl⟩, _, _, rfl, rfl, true, congrArg V.bl (decide_eq_true (by omega)), iteT ?_⟩
    exact ⟨_, rfl, _, _, rfl, .inl ⟨_, SqL.of hD4, rfl⟩, bad _ s04 (hE (by unfold badAll; rw [decide_eq_true c1]; simp))⟩
  refine ⟨_, rfl, _, _, rfl, .inl ⟨_, SqL.of hD4, rfl⟩, _, _, rfl, rfl, false, congrArg V.bl (decide_eq_false (by omega)), iteF ?_⟩
  refine ⟨_, rfl, by show 1 ≤ sizeLine; decide, fun t1 ht1 => ?_⟩
  have s5 := s4.trans (Same.new (o := .tup [.str "do"]) ht1)
  have e5 := upd_same (H := H4) (a := t1) (o := .tup [.str "do"])
  generalize upd H4 t1 (.tup [.str "do"]) = H5 at s5 e5 ⊢
  refine ⟨D, t1, ss, _, ["do"], rfl, .inl (s5 _ _ hD3), hds.keep (.of s5), by omega, fun H' s' => SqT.of (s' _ _ e5), fun H6 s6 => ⟨rfl, ?_⟩⟩
  have s36 := s5.trans s6
  by_cases c2 : cntIn (ts.map StepD.word) ["do"] = 0
  · refine ⟨true, congrArg V.bl (by rw [is0, decide_eq_true c2]), iteT ?_⟩
    exact ⟨_, rfl, _, _, rfl, .inl ⟨_, SqL.of (s36 _ _ hD3), rfl⟩, bad _ (s3.trans s36) (hE (by unfold badAll; rw [decide_eq_true c2]; simp))⟩
  refine ⟨false, congrArg V.bl (by rw [is0, decide_eq_false c2]), iteF ?_⟩
  refine ⟨_, rfl, by show 1 ≤ sizeLine; decide, fun t2 ht2 => ?_⟩
  have s7 := s36.trans (Same.new (o := .tup [.str "hold"]) ht2)
  have e7 := upd_same (H := H6) (a := t2) (o := .tup [.str "hold"])
  generalize upd H6 t2 (.tup [.str "hold"]) = H7 at s7 e7 ⊢
  refine ⟨D, t2, ss, _, ["hold"], rfl, .inl (s7 _ _ hD3), hds.keep (.of s7), by omega, fun H' s' => SqT.of (s' _ _ e7), fun H8 s8 => ⟨_, _, rfl, rfl, ?_⟩⟩
  have s38' := s7.trans s8
  by_cases c3 : 1 < cntIn (ts.map StepD.word) ["hold"]
  · refine ⟨true, congrArg V.bl (decide_eq_true (by omega)), iteT ?_⟩
    exact ⟨_, rfl, _, _, rfl, .inl ⟨_, SqL.of (s38' _ _ hD3), rfl⟩, bad _ (s3.trans s38') (hE (by unfold badAll; rw [decide_eq_true c3]; simp))⟩
  refine ⟨false, congrArg V.bl (decide_eq_false (by omega)), iteF ?_⟩
  refine ⟨_, rfl, _, _, rfl, rfl, ?_⟩
  by_cases c4 : 1 < (ts.filter touchB).length
  · refine ⟨true, congrArg V.bl (decide_eq_true (by omega)), iteT ?_⟩
    exact ⟨_, rfl, _, _, rfl, .inl ⟨_, SqL.of (s38' _ _ hD3), rfl⟩, bad _ (s3.trans s38') (hE (by unfold badAll; rw [decide_eq_true c4]; simp))⟩
  refine ⟨false, congrArg V.bl (decide_eq_false (by omega)), iteF ?_⟩
  have hf : fault true os = none := by
    rw [hf0, if_neg]
    unfold badAll
    rw [decide_eq_false c1, decide_eq_false c2, decide_eq_false c3, decide_eq_false c4]
    decide
  have s38 := s7.trans s8
  have s08 := s3.trans s38
  have hx8 := s08 _ _ hx
  have hL8 := s08 _ _ hL
  have hD8 := s38 _ _ hD3
  have hss8 : Paired (StepAt H8) ss ts := L2.Paired.mapP hss fun _ _ h => h.keep (.of s38)
  have nxL : L ≠ x := fun e => by rw [e, hx8] at hL8; cases hL8
  have nxD : D ≠ x := fun e => by rw [e, hx8] at hD8; cases hD8
  have tkx : ∀ {H' : Hp}, Kp x H8 H' → TupK H8 H' := fun kp b xs e => kp _ _ e fun q => by rw [q, hx8] at e; cases e
  -- name
  refine ⟨_, rfl, _, rfl, x, C, dx, [], rfl, hx8, DC.cl, DC.nn, by show 0 + 1 ≤ _; decide, ?_⟩
  have k9 : Kp x H8 _ := Kp.upd (p := x) (H := H8) (o := .ins C dx (putF "name" (.str nm) []))
  have x9 := upd_same (H := H8) (a := x) (o := .ins C dx (putF "name" (.str nm) []))
  generalize upd H8 x (.ins C dx (putF "name" (.str nm) [])) = H9 at k9 x9 ⊢
  -- lines
  refine ⟨_, rfl, L, _, rfl, .inr ⟨SqT.of (k9 _ _ hL8 nxL), _, rfl, x, C, dx, _, rfl, x9, DC.cl, DC.nl, by show 1 + 1 ≤ _; decide, ?_⟩⟩
  have k10 := k9.trans (Kp.upd (p := x) (H := H9) (o := .ins C dx (putF "lines" (.ref L) (putF "name" (.str nm) []))))
  have x10 := upd_same (H := H9) (a := x) (o := .ins C dx (putF "lines" (.ref L) (putF "name" (.str nm) [])))
  generalize upd H9 x (.ins C dx (putF "lines" (.ref L) (putF "name" (.str nm) []))) = H10 at k10 x10 ⊢
  -- steps
  refine ⟨_, rfl, D, ss, rfl, .inl ⟨SqL.of (k10 _ _ hD8 nxD), fun S hS => ?_⟩⟩
  have kS := k10.trans (Kp.of (Same.new (o := .tup ss) hS))
  have xS := Same.new (o := .tup ss) hS _ _ x10
  have hS1 := upd_same (H := H10) (a := S) (o := .tup ss)
  have nxS : S ≠ x := fun e => by rw [e, x10] at hS; cases hS
  generalize upd H10 S (.tup ss) = HS at kS xS hS1 ⊢
  refine ⟨_, rfl, x, C, dx, _, rfl, xS, DC.cl, DC.ns, by show 2 + 1 ≤ _; decide, ?_⟩
  have k11 := kS.trans (Kp.upd (p := x) (H := HS) (o := .ins C dx (putF "steps" (.ref S) (putF "lines" (.ref L) (putF "name" (.str nm) [])))))
  have x11 := upd_same (H := HS) (a := x) (o := .ins C dx (putF "steps" (.ref S) (putF "lines" (.ref L) (putF "name" (.str nm) []))))
  have hS2 : upd HS x (.ins C dx (putF "steps" (.ref S) (putF "lines" (.ref L) (putF "name" (.str nm) [])))) S = some (.tup ss) := by rw [upd_ne nxS]; exact hS1
  generalize upd HS x (.ins C dx (putF "steps" (.ref S) (putF "lines" (.ref L) (putF "name" (.str nm) [])))) = H11 at k11 x11 hS2 ⊢
  -- touches
  refine ⟨_, rfl, rfl, _, rfl, x, C, dx, _, rfl, x11, DC.cl, DC.nt, by show 3 + 1 ≤ _; decide, ?_⟩
  rw [show decide (V.int ((ts.filter touchB).length : Nat) = V.int 1) = touches ts by unfold touches; congr 1; exact propext ⟨fun e => by have := V.int.inj e; omega, fun e => by rw [e]; rfl⟩]
  have k12 := k11.trans (Kp.upd (p := x) (H := H11) (o := .ins C dx (putF "touches" (.bl (touches ts)) (putF "steps" (.ref S) (putF "lines" (.ref L) (putF "name" (.str nm) []))))))
  have x12 := upd_same (H := H11) (a := x) (o := .ins C dx (putF "touches" (.bl (touches ts)) (putF "steps" (.ref S) (putF "lines" (.ref L) (putF "name" (.str nm) [])))))
  have hS3 : upd H11 x (.ins C dx (putF "touches" (.bl (touches ts)) (putF "steps" (.ref S) (putF "lines" (.ref L) (putF "name" (.str nm) []))))) S = some (.tup ss) := by rw [upd_ne nxS]; exact hS2
  generalize upd H11 x (.ins C dx (putF "touches" (.bl (touches ts)) (putF "steps" (.ref S) (putF "lines" (.ref L) (putF "name" (.str nm) []))))) = H12 at k12 x12 hS3 ⊢
  -- names_row
  have hD12 := k12 _ _ hD8 nxD
  have hss12 : Paired (StepAt H12) ss ts := L2.Paired.mapP hss8 fun _ _ h => h.keep (tkx k12)
  refine ⟨_, rfl, D, rfl, ⟨_, SqL.of hD12⟩, fun E2 hE2 => lc_vals (ys := ts.map fun t => V.bl (rowB t)) (by rw [List.length_map, hsl]) hD12 hE2 (by omega) (fun _ => rfl) (fun i v y hv hy H' s' Qe qk => ?_) fun H13 s13 hE3 => ?_⟩
  · obtain ⟨t, ht, hvt⟩ := paired_get hss12 hv
    rw [List.getElem?_map, ht] at hy
    obtain rfl := Option.some.inj hy
    exact ⟨_, rfl, v, t, rfl, hvt.keep (.of s'), lens i t ht, fun H5 s5 => qk _ s5⟩
  refine ⟨E2, ts.map rowB, rfl, SqL.of (by rw [hE3, List.map_map]; rfl), ?_⟩
  rw [show (ts.map rowB).any id = ts.any rowB by rw [List.any_map]; rfl]
  have k13 := k12.trans (Kp.of s13)
  refine ⟨_, rfl, x, C, dx, _, rfl, s13 _ _ x12, DC.cl, DC.nr, by show 4 + 1 ≤ _; decide, ?_⟩
  have k14 := k13.trans (Kp.upd (p := x) (H := H13) (o := .ins C dx (fsD nm L S ts)))
  exact kO hf _ fun b o e n => k14 _ _ (s08 _ _ e) n
def spDoorX (K : PySem.W.Frag) (B C : Addr) : Sp := fun vs H Q E => ∃ (x dx : Addr) (nv : V) (b : Bool) (xs : List V) (os : List (Option StepD)), vs = .ref x :: nv :: xs ∧ H x = some (.ins C dx []) ∧ xs.length ≤ 100 ∧ NmE H nv b ∧ Paired (LnE H) xs os ∧
  (∀ i, fault b os = some i → BadD B H i E) ∧ (fault b os = none → ∀ H', (∀ b o, H b = some o → b ≠ x → H' b = some o) → Q .non H')
theorem ok_doorX {B C f fIw fRl fHm fSt fSn fX : Addr} {fdIw fdRl fdHm fdSt fdSn fdX : FuncData} {oc od kV doc pm an cdv ct osl} (g : Bi mg) (nA : mg "any" = none) (DC : DoC K C)
    (FIw : Def P w K mg base CX0 1 "is_word" ["thing"] (spIsWord K) fIw fdIw) (FRl : Def P w K mg base CX0 7 "read_line" ["line"] (spReadLine K) fRl fdRl) (FHm : Def P w K mg base CX0 1 "how_many" ["parts", "words"] (spHowMany K) fHm fdHm)
    (FSt : Def P w K mg base CX0 2 "step_touches" ["step"] spTouches fSt fdSt) (FSn : Def P w K mg base CX0 2 "step_names_row" ["step"] spNamesRow fSn fdSn) (XB : XDef P w K mg base "BadDoor" B fX "at" ["self", "at"] fdX)
    (lk : K.lookup f = some ⟨oc, od, .func (PySem.W.fnOf "__init__" "Door.__init__" (defArgs s_Door_init) (defBody s_Door_init) (defScope s_Door_init) .none kV doc pm an cdv ct), osl⟩) (hcd : PySem.W.codeIn K cdv "Door.__init__" = true) :
    FnR P w K mg base (L2.CX P w) 8 f (spDoorX K B C) := by
  have G := StX.fn_star (P := P) (w := w) (mg := mg) (base := base) (CX := L2.CX P w) (k := 7) (ps := ["self", "name"]) (pv := "lines") (sp := spDoorXB K B C) lk hcd sc_Door_init StX.cxUp
    (fun us rest hl => match us, rest, hl with | [a, b], [], _ => rfl | [a, b], r :: rs, _ => rfl)
    (fun A outer s H vs Q E hr h => door_bodyX (P := P) (w := w) (mg := mg) (base := base) (outer := outer) (s := s) g nA DC FIw FRl FHm FSt FSn XB hr h)
  refine G.imp fun vs H Q E h => ?_
  obtain ⟨x, dx, nv, b, xs, os, rfl, hx, hxl, hnv, hls, kE, kO⟩ := h
  refine ⟨[.ref x, nv], xs, rfl, rfl, Nat.le_trans hxl (by decide), fun p hp => ?_⟩
  have s1 : Same H (upd H p (.tup xs)) := Same.new hp
  exact ⟨x, dx, p, nv, b, xs, os, rfl, s1 _ _ hx, upd_same, hxl, hnv.same s1, L2.Paired.mapP hls fun _ _ q => q.same s1, fun i e => (kE i e).same s1, fun e H' h2 => kO e H' fun b o e n => h2 b o (s1 _ _ e) n⟩
/-- a door made, or BadDoor -/
def EndD (B : Addr) (H : Hp) (b : Bool) (os : List (Option StepD)) (Q : VK) (E : XK) : Prop := (∀ i, fault b os = some i → BadD B H i E) ∧ (fault b os = none → ∀ x H', Same H H' → Q (.ref x) H')
theorem mk_doorX {B C : Addr} {nv : V} {b : Bool} {xs : List V} {os : List (Option StepD)} {H : Hp} {Q : VK} {E : XK} (hxl : xs.length ≤ 100) (hn : NmE H nv b) (hl : Paired (LnE H) xs os) (k : EndD B H b os Q E) :
    ∀ x dx, H x = none → H dx = none → dx ≠ x → spDoorX K B C (V.ref x :: nv :: xs) (upd (upd H dx (.own x)) x (.ins C dx [])) (fun v H2 => v = .non ∧ Q (.ref x) H2) E := by
  intro x dx hx hdx ne
  have s1 : Same H (upd H dx (.own x)) := Same.new hdx
  have hx1 : (upd H dx (.own x)) x = none := by rw [upd_ne ne.symm]; exact hx
  have s12 := s1.trans (Same.new (o := .ins C dx []) hx1)
  exact ⟨x, dx, nv, b, xs, os, rfl, upd_same, hxl, hn.same s12, L2.Paired.mapP hl fun _ _ q => q.same s12, fun i e => (k.1 i e).same s12, fun e H' h2 => ⟨rfl, k.2 e x H' fun b o e => h2 _ _ (s12 _ _ e) (ne_of_none e hx)⟩⟩
def spDoorOfX (K : PySem.W.Frag) (B C : Addr) : Sp := fun vs H Q E => ∃ (a : Addr) (nv : V) (b : Bool) (xs : List V) (os : List (Option StepD)), vs = [.ref C, nv, .ref a] ∧ H a = some (.lst xs) ∧ xs.length ≤ 100 ∧ NmE H nv b ∧ Paired (LnE H) xs os ∧ EndD B H b os Q E
theorem ok_door_ofX {B C f fI : Addr} {fd : FuncData} (F : Fun K "of" "Door.of" s_Door_of f fd) (MK : Mk K C fI) (IK : FnR P w K mg base (L2.CX P w) 8 fI (spDoorX K B C)) : FnOk P w K mg base (L2.CX P w) 10 f fd ["cls", "name", "lines"] (spDoorOfX K B C) := by
  refine F.okX sc_Door_of (fun vs H Q E h => ?_) (fun cdv A outer s H vs Q E hr h => ?_)
  · obtain ⟨_, _, _, _, _, rfl, _⟩ := h
    rfl
  · obtain ⟨a, nv, b, xs, os, rfl, ha, hxl, hnv, hls, k⟩ := h
    have hrI : Room 9 _ := hr
    refine ⟨_, (pss_one (ps_ret (pe_mkML (i := 0) MK IK hrI rfl (Or.inl rfl) (passes_call (takes_of rfl rfl rfl rfl) fun _ _ _ _ h => h) (pa_cons (pv 1) (StX.pa_star (pv 2) pa_nil))))), ?_⟩
    refine ⟨rfl, _, rfl, _, rfl, a, _, rfl, .inr (SqL.of ha), ?_⟩
    have q := mk_doorX (K := K) (B := B) (C := C) (E := E) (Q := Q) hxl hnv hls k
    rw [← List.append_nil xs] at q
    exact q
end
end Dr

set_option Elab.async false
set_option linter.all false
set_option maxRecDepth 100000
set_option maxHeartbeats 4000000
/-! C.m(e, ..) and C(e, ..) (promises of FnR) in a try. -/
namespace Cs
open PySem PySem.Spec PyProof.Rows L2 ClX
section
variable {X : Cx} {pins : List (Addr × Obj)} {σ : L2.St} {H : Hp} {s : Shared} {C p g : Addr} {mc : Value} {m : Str}
theorem run_fnRS {CX : CXT} {k : Nat} {f : Addr} {sp : Sp} {E : XK} {Q : VK} {us : List Value} {vs : List V} (F : FnR X.prog X.w X.K X.mg X.base CX k f sp) (hr : Room k X.A) (hx : PassesAt CX X σ E) (I : Inv X pins σ H s) (r : Vals vs us) (h : sp vs H Q E) :
    codeAny (model X.prog X.w) X.A (.call (.ref f) ⟨us, []⟩) (fun r s' => match r with | .ok (.ret v) => EP X pins σ Q v s' | .ok _ => False | .error e => X.xe e s') s := by
  refine codeAny_mono (F X.A X.stack s H us vs Q E hr I.env0 r h) fun r s' hq => ?_
  cases r with
  | error e => exact hx pins H s e s' I hq
  | ok fl =>
    cases fl with
    | ret u => exact I.after hq
    | next => exact False.elim hq
    | brk => exact False.elim hq
    | cont => exact False.elim hq
theorem run_cmS {CX : CXT} {k : Nat} {q : Addr} {sp : Sp} {E : XK} {Q : VK} {us : List Value} {vs : List V} (F : FnR X.prog X.w X.K X.mg X.base CX k g sp) (hr : Room k X.A) (hx : PassesAt CX X σ E) (I : Inv X ((q, PySem.W.methodObj (.ref g) (.ref C)) :: pins) σ H s)
    (r : Vals vs us) (h : sp (.ref C :: vs) H Q E) : wpAny (model X.prog X.w) X.A (call (.ref q) us) (EP X pins σ Q) X.xe s := by
  have z : wpAny (model X.prog X.w) X.A (call (.ref q) us) (EP X ((q, PySem.W.methodObj (.ref g) (.ref C)) :: pins) σ Q) X.xe s :=
    wpAny_call (PySem.W.method_call (pin_at I) (run_fnRS (us := .ref C :: us) (vs := .ref C :: vs) F hr hx I (.cons rfl r) h))
  exact thn z fun _ _ y => unpinE y
theorem run_makeRS {CX : CXT} {k : Nat} {f : Addr} {sp : Sp} {E : XK} {Q : VK} {us : List Value} {vs : List V} (M : Mk X.K C f) (F : FnR X.prog X.w X.K X.mg X.base CX k f sp) (hr : Room (k + 1) X.A) (hx : PassesAt CX X σ E) (I : Inv X pins σ H s) (r : Vals vs us)
    (h : ∀ x dx, H x = Option.none → H dx = Option.none → dx ≠ x → sp (V.ref x :: vs) (upd (upd H dx (.own x)) x (.ins C dx [])) (fun v H2 => v = .non ∧ Q (.ref x) H2) E) :
    wpAny (model X.prog X.w) X.A (call (.ref C) us) (EP X pins σ Q) X.xe s := by
  have hq := h (s.heap.objs.size + 1) s.heap.objs.size (I.hok.fresh (Nat.le_succ _)) (I.hok.fresh (Nat.le_refl _)) (Nat.ne_of_lt (Nat.lt_succ_self _))
  have I2 := Inv.made (C := C) I
  have r2 : Vals (V.ref (s.heap.objs.size + 1) :: vs) (Value.ref (s.heap.objs.size + 1) :: us) := .cons rfl r
  refine wpAny_call (make_map (f := f) I.kIn M.makes M.init (beq_iff_eq.mp M.fn) (codeAny_mono (F _ X.stack _ _ (Value.ref (s.heap.objs.size + 1) :: us) _ _ E (hr.make C us []) (I2.env0.make C us []) r2 hq) fun r s' hq' => ?_))
  cases r with
  | error e => exact hx pins _ _ e s' I2 hq'
  | ok fl =>
    cases fl with
    | ret u =>
      obtain ⟨v, H', I3, rv, ev, q3⟩ := I2.after hq'
      subst ev
      exact ⟨rv, ⟨V.ref (s.heap.objs.size + 1), H', I3, rfl, q3⟩⟩
    | next => exact False.elim hq'
    | brk => exact False.elim hq'
    | cont => exact False.elim hq'
end
section
variable {X : Cx} {CX : CXT} {k : Nat} {C p g f : Addr} {mc : Value} {m x : Str} {sp : Sp} {E : L2.St → XK} {o e : Expr} {es : List Expr} {pos apos ppos : Pos} {ta : TE} {t : TA} {pl : Sem Bool}
def tCMethS (C : Addr) (sp : Sp) (E : L2.St → XK) (ta : TE) (t : TA) : TE := fun σ H Q => ta σ H fun x H1 => x = .ref C ∧ t σ H1 fun vs H2 => sp (.ref C :: vs) H2 Q (E σ)
theorem pe_cmethS (he : PE X o ta) (r : CRead X.K C mc) (c : CMet X.K C mc m p g) (F : FnR X.prog X.w X.K X.mg X.base CX k g sp) (hr : Room k X.A) (hx : ∀ σ, PassesAt CX X σ (E σ)) (ha : PA X (e :: es) t)
    (hst : starEach (e :: es) X.env = (false, eval e X.env) :: starEach es X.env := by rfl) (hpl : (backTo pos (starEach es X.env)).any (·.1) = false := by rfl)
    (ht : eval (.Call (.Attribute o m apos) (e :: es) [] pos) X.env = (do
      let ov ← eval o X.env
      standAt apos.atName
      let (f, first) ← holding [ov] (getMethod ov m pl)
      callWith pos f first (backTo pos (starEach (e :: es) X.env)) (backToKw pos (keywordEach [] X.env))) := by rfl) :
    PE X (.Call (.Attribute o m apos) (e :: es) [] pos) (tCMethS C sp E ta t) := by
  refine ⟨fun pins s σ H Q I h => ?_⟩
  refine PySem.W.methodCall_KW (pl := pl) (thn (he.run pins s σ H _ I h) fun u s1 ⟨x, H1, I1, rx, ex, q⟩ => ?_) ht
  subst ex
  obtain rfl : u = Value.ref C := rx
  refine getmethcm_ok I1 r c fun s2 I2 => ?_
  refine callwith_cm I2 (base_none I1 (Nat.le_refl _)) c.fi (thn (ha.run pos _ s2 σ H1 _ I2 q) fun us s3 ⟨vs, H2, I3, rv, q2⟩ => ⟨⟨pin_at I3, I3.kIn⟩, ?_⟩) hst hpl
  exact run_cmS F hr (hx σ) I3 rv q2
def tMakeRS (C : Addr) (sp : Sp) (E : L2.St → XK) (t : TA) : TE := fun σ H Q => t σ H fun vs H1 => ∀ x dx, H1 x = none → H1 dx = none → dx ≠ x → sp (.ref x :: vs) (upd (upd H1 dx (.own x)) x (.ins C dx [])) (fun v H2 => v = .non ∧ Q (.ref x) H2) (E σ)
theorem pe_makeRS (M : Mk X.K C f) (F : FnR X.prog X.w X.K X.mg X.base CX k f sp) (hr : Room (k + 1) X.A) (hg : Gl X x) (hm : X.mg x = some (.ref C)) (hx : ∀ σ, PassesAt CX X σ (E σ)) (ha : PA X (e :: es) t) (hdb : (x == ("__debug__" : Str)) = false := by decide)
    (he : starEach (e :: es) X.env = (false, eval e X.env) :: starEach es X.env := by rfl) (hpl : (backTo pos (starEach es X.env)).any (·.1) = false := by rfl) : PE X (.Call (.Name x ppos) (e :: es) [] pos) (tMakeRS C sp E t) := by
  refine ⟨fun pins s σ H Q I h => ?_⟩
  refine wpAny_Call_Name_kw (ld_glob I hg hm ?_ hdb)
  refine PySem.W.callWith_K (h₀ := X.base) I.ok.mod.kin M.kp (thn (ha.run pos pins s σ H _ I h) fun us s1 ⟨vs, H1, I1, r, q⟩ => ⟨I1.kIn, ?_⟩) he hpl
  exact run_makeRS M F hr (hx σ) I1 r q
end
end Cs

set_option Elab.async false
set_option linter.all false
set_option maxRecDepth 100000
set_option maxHeartbeats 8000000
set_option pp.maxSteps 600
/-! Doors refused: where. -/
namespace Dr
open PySem L2 Cs
def atOf (b : Bool) (os : List (Option StepD)) : Int := (fault b os).getD (-5)
def spLAt (K : PySem.W.Frag) : Sp := fun vs H Q _ => ∃ (a : Addr) (nv : V) (b : Bool) (xs : List V) (os : List (Option StepD)), vs = [nv, .ref a] ∧ H a = some (.lst xs) ∧ xs.length ≤ 100 ∧ NmE H nv b ∧ Paired (LnE H) xs os ∧ ∀ H', Same H H' → Q (.int (atOf b os)) H'
section
variable {P : Program} {w : World} {K : PySem.W.Frag} {mg : Str → Option Value} {base : Heap}
theorem ok_lat {f fX B C qO fO ce : Addr} {fd fdX : FuncData} {mc : Value} (F : Fun K "_law_at" "_law_at" s_l_at f fd) (g : Bi mg) (mDo : mg "Door" = some (.ref C)) (XB : XDef P w K mg base "BadDoor" B fX "at" ["self", "at"] fdX) (EC : ExcC K B) (XF : XfC K B) (hno : PySem.W.findIn K (.ref B) "at" = some none)
    (mCE : mg "CountsheldError" = some (.ref ce)) (k1 : PySem.W.kitOne K (.ref B) (.ref ce) = some true) (rO : ClX.CRead K C mc) (cO : ClX.CMet K C mc "of" qO fO) (oO : FnR P w K mg base (L2.CX P w) 10 fO (spDoorOfX K B C)) : FnOk P w K mg base CX0 11 f fd ["_law_name", "_law_lines_here"] (spLAt K) := by
  refine F.ok sc_l_at (fun vs H Q E h => ?_) (fun cdv A outer s H vs Q E hr h => ?_)
  · obtain ⟨_, _, _, _, _, rfl, _⟩ := h
    rfl
  · obtain ⟨a, nv, b, xs, os, rfl, ha, hxl, hnv, hls, k⟩ := h
    have hrOf : Room 10 _ := hr
    refine ⟨_, (pss_cons (ps_try_as (i := 2) (tb := fun W => tDrop (tCMethS C (spDoorOfX K B C) (WE W) (tC (.ref C)) (tCons (tVar 0) (tCons (tVar 1) tNil)))) rfl rfl sc_l_at.nd rfl rfl ⟨rfl, by decide, Or.inl XB.mg_⟩ takes0
          (fun W pn xe tk _ => pss_one (ps_expr (pe_cmethS (pe_glob (v := .ref C) rfl mDo rfl) rO cO oO hrOf (fun σ => passAt tk σ) (pa_cons (pv 0) (pa_cons (pv 1) pa_nil)))))
          (fun ae oe cls d pn hz hf => pss_cons (ps_if (PW.pt (pw_and (pt_val (pe_callB (call_isD hz hf) (by rfl) g.isinstance (by decide +kernel) (pa_cons (pv 2) (pa_cons (pe_glob (v := .ref ce) rfl mCE rfl) pa_nil)))) (pw_and (pt_val (pe_callB (id := "isinstance") (r := rIsi K) (call_isi (X := Cx.suite _ ae ((ae, oe) :: pn))) (by rfl) g.isinstance (by decide +kernel) (pa_cons (pe_xf XF hno hz hf (pv 2)) (pa_cons (pe_bltn (v := .ty "int") (by rfl) g.int (by decide +kernel) rfl) pa_nil)))) (pw_and1 (pt_not (pt_val (pe_callB (id := "isinstance") (r := rIsi K) (call_isi (X := Cx.suite _ ae ((ae, oe) :: pn))) (by rfl) g.isinstance (by decide +kernel) (pa_cons (pe_xf XF hno hz hf (pv 2)) (pa_cons (pe_bltn (v := .ty "bool") (by rfl) g.bool (by decide +kernel) rfl) pa_nil))))))))) (pss_one (ps_ret (pe_xf XF hno hz hf (pv 2)))) pss_nil) (pss_one (ps_ret (pe_un un_neg pe_int)))))
      (pss_one (ps_ret (pe_un un_neg pe_int)))), ?_⟩
    refine ⟨rfl, _, rfl, _, rfl, a, nv, b, xs, os, rfl, ha, hxl, hnv, hls, fun i e H' dd s' hdd => ?_, fun e x H' s' => ?_⟩
    · refine ⟨true, XB.te, fun _ ea hea => ?_, fun q => Bool.noConfusion q⟩
      have hd := upd_same (H := H') (a := dd) (o := .xd [(("at" : Str), .int i)])
      have sd := s'.trans (Same.new (o := .xd [(("at" : Str), .int i)]) hdd)
      refine ⟨_, rfl, B, dd, _, _, _, _, EC, rfl, rfl, hd, rfl, fun _ q => q, k1, _, rfl, iteT ?_⟩
      refine ⟨_, rfl, rfl, rfl, dd, _, _, rfl, hd, rfl, _, _, _, _, true, rfl, .ty "int", .base (.int i), kit_ty (by decide +kernel), _, rfl, iteT ?_⟩
      refine ⟨_, rfl, rfl, rfl, dd, _, _, rfl, hd, rfl, _, _, _, _, false, rfl, .ty "bool", .base (.int i), kit_ty (by decide +kernel), _, rfl, iteT ?_⟩
      refine ⟨_, rfl, rfl, rfl, dd, _, _, rfl, hd, rfl, ?_⟩
      have z := k _ sd
      rw [show atOf b os = i by unfold atOf; rw [e]; rfl] at z
      exact z
    · have z := k H' s'
      rw [show atOf b os = -5 by unfold atOf; rw [e]; rfl] at z
      exact ⟨_, rfl, z⟩
end
end Dr

set_option Elab.async false
set_option linter.all false
set_option maxRecDepth 100000
set_option maxHeartbeats 8000000
/-! Doors refused, plain: texts by their tokens, doors that are wrong as a whole. -/
namespace Dr
open PySem L2 Cs
theorem lineOk_join {ts : List Str} (hn : ts ≠ []) (hl : ts.length ≤ 100) (h : ∀ z ∈ ts, TokO z) : LineOk (Txt.join " " ts) ∧ readLine (Txt.join " " ts) = readToks ts := by
  have e : Txt.split (Txt.join " " ts) " " = ts := TL.split_join (s := 32) (S := []) (by decide +kernel) (by decide +kernel) hn fun p m => (h p m).1
  have hlen : (Txt.join " " ts).length ≤ 2100 := by
    have h1 := joinS_lenD " " ts
    have h2 := sumS_leD (B := 20) (ts := ts) fun z m => (h z m).2.2
    rw [TL.join_eq]
    have e : ((" " : String) : Str).length = 1 := rfl
    rw [e] at h1
    omega
  refine ⟨⟨Nat.le_trans (show _ ≤ 4000 by omega) (by decide), by rw [e]; exact hn, ?_⟩, ?_⟩
  · rw [e]
    exact ⟨Nat.le_trans hl (by decide), fun z m => Nat.le_trans (h z m).2.2 (by decide), fun z m => (h z m).2.1⟩
  · unfold readLine
    rw [e]
def tokB (z : Str) : Bool := decide (32 ∉ TL.tl z) && (PyData.strOk z && decide (z.length ≤ 20))
theorem tokB_ok {z : Str} (h : tokB z = true) : TokO z := by
  unfold tokB at h
  simp only [Bool.and_eq_true, decide_eq_true_eq] at h
  exact ⟨h.1, h.2.1, h.2.2⟩
/-- a text by its tokens, that is no line -/
theorem ln_none {H : Hp} {z : Str} {ts : List Str} (e : z = Txt.join " " ts) (hn : ts ≠ []) (hl : ts.length ≤ 100) (h : ∀ x ∈ ts, TokO x) (r : readToks ts = none) : LnE H (.str z) none := by
  obtain ⟨h1, h2⟩ := lineOk_join hn hl h
  exact .inl ⟨z, rfl, by rw [e]; exact h1, by rw [e, h2]; exact r⟩
theorem ln_lit {H : Hp} {z : Str} (ts : List Str) (e : z = Txt.join " " ts) (hn : ts ≠ []) (hl : ts.length ≤ 100) (h : ts.all tokB = true) (r : readToks ts = none) : LnE H (.str z) none :=
  ln_none e hn hl (fun x m => tokB_ok (List.all_eq_true.mp h x m)) r
theorem ln_good {H : Hp} {t : StepD} (h : GoodS t) : LnE H (.str (lineS t)) (some t) := .inl ⟨_, rfl, (line_ok h).1, (line_ok h).2⟩
theorem lns_good {H : Hp} : ∀ {ts : List StepD}, (∀ t ∈ ts, GoodS t) → Paired (LnE H) ((ts.map lineS).map V.str) (ts.map some)
  | [], _ => .nil
  | t :: ts, h => .cons (ln_good (h t List.mem_cons_self)) (lns_good fun x m => h x (List.mem_cons_of_mem _ m))
theorem nm_word {H : Hp} {nm : Str} (h : Word nm) : NmE H (.str nm) true := .inl ⟨nm, rfl, Nat.le_trans h.2.1 (by decide), wordB_of h⟩
/-! what is told -/
theorem fm_some (ts : List StepD) : (ts.map some).filterMap id = ts := by
  induction ts with
  | nil => rfl
  | cons t ts ih => rw [List.map_cons, List.filterMap_cons_some (b := t) (by rfl), ih]
theorem all_map_some (ts : List StepD) : (ts.map some).all Option.isSome = true := by
  rw [List.all_map, List.all_eq_true]
  intro _ _
  rfl
theorem fault_map (ts : List StepD) : fault true (ts.map some) = if badAll ts = true then some (ts.length : Int) else none := by
  unfold fault
  rw [if_neg (by decide), if_neg (by rw [all_map_some]; decide), fm_some, List.length_map]
theorem fault_word (os : List (Option StepD)) : fault false os = some (-1) := rfl
theorem fault_in (a b : List StepD) (os : List (Option StepD)) : fault true (a.map some ++ none :: os) = some (a.length : Int) := by
  refine fault_some (i := a.length) ?_ ?_
  · rw [List.take_append_of_le_length (by rw [List.length_map]; omega), List.take_of_length_le (by rw [List.length_map]; omega)]
    exact all_map_some a
  · rw [List.getElem?_append_right (by rw [List.length_map]; omega), List.length_map, Nat.sub_self]
    rfl
theorem good_all {ts : List StepD} (h : GoodL ts) : badAll ts = false := by
  have h1 := h.few
  have h3 := h.holds
  have h4 := h.cross
  unfold badAll
  rw [decide_eq_false (show ¬ 6 < ts.length by omega), decide_eq_false h.deeds, decide_eq_false (show ¬ 1 < cntIn (ts.map StepD.word) ["hold"] by omega), decide_eq_false (show ¬ 1 < (ts.filter touchB).length by omega)]
  rfl
end Dr

set_option Elab.async false
set_option linter.all false
set_option maxRecDepth 100000
set_option maxHeartbeats 8000000
/-! Doors that are wrong as a whole, plain. -/
namespace Dr
open PySem L2 Cs
theorem at_lastW {ks : List Str} (h : ks ≠ []) : ∃ z, z ∈ ks ∧ atI (ks.map V.str) (-1) = some (.str z) := by
  refine ⟨ks.getLast h, List.getLast_mem h, ?_⟩
  have e := List.dropLast_concat_getLast h
  have q : ks.map V.str = (ks.dropLast).map V.str ++ [V.str (ks.getLast h)] := by rw [show [V.str (ks.getLast h)] = [ks.getLast h].map V.str from rfl, ← List.map_append, e]
  rw [q]
  exact atI_last _ _
/-- parts that touch -/
inductive CrP (k z : Str) : PartD → Prop where
  | join : CrP k z .join
  | take : CrP k z (.kind "take" k z)
  | give : CrP k z (.kinds "give" [k] k)
theorem cross_text {k z : Str} {p : PartD} (h : CrP k z p) : lineS (.deed [p] []) = match p with | .join => (("do join" : String) : Str) | .kind _ _ _ => (("do take " : String) : Str) ++ k ++ " -> " ++ z | _ => (("do give " : String) : Str) ++ k ++ " -> " ++ k := by
  unfold lineS
  rw [TL.join_eq]
  cases h with
  | join => rfl
  | take =>
    show Str.join " " [(("do" : String) : Str), "take", k, "->", z] = (("do take " : String) : Str) ++ k ++ " -> " ++ z
    simp only [joinS_consD]
    refine TL.ext_tl ?_
    simp only [TL.tl_append, List.append_assoc]
    rfl
  | give =>
    show Str.join " " [(("do" : String) : Str), "give", k, "->", k] = (("do give " : String) : Str) ++ k ++ " -> " ++ k
    simp only [joinS_consD]
    refine TL.ext_tl ?_
    simp only [TL.tl_append, List.append_assoc]
    rfl
def othT (k : Str) (n : Int) : TestD := .sum true [k] "<" n
theorem oth_text {ps : List PartD} {k : Str} {n : Int} (h : ps ≠ []) : lineS (.deed ps []) ++ " if other " ++ k ++ " < " ++ ntS n = lineS (.deed ps [othT k n]) := by
  rw [← do_text0 h, ← do_text1 h]
  have e : testS (othT k n) = (("other " : String) : Str) ++ k ++ " < " ++ ntS n := by
    unfold testS
    rw [TL.join_eq]
    show Str.join " " [(("other" : String) : Str), k, "<", ntS n] = _
    simp only [joinS_consD]
    refine TL.ext_tl ?_
    simp only [TL.tl_append, List.append_assoc]
    rfl
  show _ = _ ++ _ ++ Txt.join " and " [testS (othT k n)]
  rw [TL.join_eq, e]
  show _ = _ ++ ((("other " : String) : Str) ++ k ++ " < " ++ ntS n)
  refine TL.ext_tl ?_
  simp only [TL.tl_append, List.append_assoc]
  rfl
theorem cross_good {k z : Str} {p : PartD} (hk : kindB k = true) (hz : kindB z = true) (h : CrP k z p) : GoodP p ∧ p.word ∈ CROSS ∧ cntIn [p.word] RG ≤ 1 := by
  cases h with
  | join => exact ⟨trivial, by show (("join" : String) : Str) ∈ CROSS; decide +kernel, by show cntIn [(("join" : String) : Str)] RG ≤ 1; decide +kernel⟩
  | take => exact ⟨⟨hk, .inr ⟨rfl, hz⟩⟩, by show (("take" : String) : Str) ∈ CROSS; decide +kernel, by show cntIn [(("take" : String) : Str)] RG ≤ 1; decide +kernel⟩
  | give => exact ⟨⟨goodK1 hk, .inr ⟨rfl, hk⟩⟩, by show (("give" : String) : Str) ∈ CROSS; decide +kernel, by show cntIn [(("give" : String) : Str)] RG ≤ 1; decide +kernel⟩
theorem cnt_one {z : Str} {ws : List Str} (h : z ∈ ws) : cntIn [z] ws = 1 := by
  unfold cntIn
  rw [List.filter_cons, if_pos (decide_eq_true h)]
  rfl
theorem cross_do {k z : Str} {p : PartD} {ts : List TestD} (hk : kindB k = true) (hz : kindB z = true) (h : CrP k z p) (hl : ts.length ≤ 4) (hg : ∀ t ∈ ts, GoodT t) : GoodDo [p] ts ∧ touchB (.deed [p] ts) = true := by
  obtain ⟨h1, h2, h3⟩ := cross_good hk hz h
  have e : cntIn ([p].map PartD.word) CROSS = 1 := cnt_one h2
  refine ⟨⟨by simp, by show 1 ≤ 4; decide, fun q m => by rw [List.mem_singleton.mp m]; exact h1, hl, hg, h3, by rw [e]; decide, fun q => by rw [e] at q; exact absurd q.1 (by decide)⟩, ?_⟩
  show decide (0 < cntIn ([p].map PartD.word) CROSS) = true
  rw [e]
  rfl
theorem oth_good {k : Str} {n : Int} (hk : kindB k = true) (h0 : 0 ≤ n) (h9 : n ≤ 9) : ∀ t ∈ [othT k n], GoodT t := fun t m => by
  rw [List.mem_singleton.mp m]
  exact ⟨goodK1 hk, by decide +kernel, h0, h9⟩
/-- the law's wrong doors -/
def rowsW (L P F S : StepD) : List (List StepD) := [[], [P, P, P, P, P, P, P], [L], [L, .hold, L], [.hold], [.hold, P, .hold], [.hold, .hold, P], [F, S], [F, L, P, S], [P, L, P, L, P, L, L]]
theorem word_ne {a b : Str} {ws : List Str} (h : ws = [b]) (e : a = b) : a ∈ ws := by rw [h, e]; exact List.mem_singleton.mpr rfl
theorem rowsW_bad {t : TestD} {ps : List PartD} {tt : List TestD} {F S : StepD} (hF : touchB F = true) (hS : touchB S = true) : ∀ r ∈ rowsW (.look [t]) (.deed ps tt) F S, badAll r = true := by
  have wd : (StepD.deed ps tt).word = (("do" : String) : Str) := rfl
  intro r m
  have d0 : ∀ r : List StepD, cntIn (r.map StepD.word) ["do"] = 0 → badAll r = true := fun r e => by unfold badAll; rw [decide_eq_true e]; simp
  have h2 : ∀ r : List StepD, 1 < cntIn (r.map StepD.word) ["hold"] → badAll r = true := fun r e => by unfold badAll; rw [decide_eq_true e]; simp
  have l7 : ∀ r : List StepD, 6 < r.length → badAll r = true := fun r e => by unfold badAll; rw [decide_eq_true e]; simp
  have t2 : ∀ r : List StepD, 1 < (r.filter touchB).length → badAll r = true := fun r e => by unfold badAll; rw [decide_eq_true e]; simp
  simp only [rowsW, List.mem_cons, List.not_mem_nil, or_false] at m
  rcases m with e | e | e | e | e | e | e | e | e | e <;> subst e
  · exact d0 _ rfl
  · exact l7 _ (by show 6 < 7; decide)
  · exact d0 _ (by show cntIn [(("look" : String) : Str)] ["do"] = 0; decide +kernel)
  · exact d0 _ (by show cntIn [(("look" : String) : Str), "hold", "look"] ["do"] = 0; decide +kernel)
  · exact d0 _ (by show cntIn [(("hold" : String) : Str)] ["do"] = 0; decide +kernel)
  · exact h2 _ (by show 1 < cntIn [(("hold" : String) : Str), "do", "hold"] ["hold"]; decide +kernel)
  · exact h2 _ (by show 1 < cntIn [(("hold" : String) : Str), "hold", "do"] ["hold"]; decide +kernel)
  · refine t2 _ ?_
    simp [List.filter_cons, hF, hS]
  · refine t2 _ ?_
    rw [List.filter_cons, if_pos hF, List.length_cons]
    have : 0 < ([StepD.look [t], .deed ps tt, S].filter touchB).length := List.length_pos_iff_exists_mem.mpr ⟨S, List.mem_filter.mpr ⟨by simp, hS⟩⟩
    omega
  · exact l7 _ (by show 6 < 7; decide)
theorem rowsW_good {L P F S : StepD} (hL : GoodS L) (hP : GoodS P) (hF : GoodS F) (hS : GoodS S) : ∀ r ∈ rowsW L P F S, r.length ≤ 7 ∧ ∀ t ∈ r, GoodS t := by
  have h : ∀ r ∈ rowsW L P F S, r.length ≤ 7 ∧ ∀ t ∈ r, t = L ∨ t = P ∨ t = F ∨ t = S ∨ t = .hold := by
    intro r m
    simp only [rowsW, List.mem_cons, List.not_mem_nil, or_false] at m
    rcases m with e | e | e | e | e | e | e | e | e | e <;> subst e <;> refine ⟨by simp, ?_⟩ <;> simp only [List.forall_mem_cons, List.not_mem_nil, false_implies, implies_true, and_true, true_or, or_true, and_self]
  intro r m
  obtain ⟨h1, h2⟩ := h r m
  refine ⟨h1, fun t mt => ?_⟩
  rcases h2 t mt with e | e | e | e | e <;> rw [e]
  · exact hL
  · exact hP
  · exact hF
  · exact hS
  · trivial
theorem hold_do {ps : List PartD} {tt : List TestD} (h : GoodDo ps tt) : GoodL [.hold, .deed ps tt] :=
  ⟨fun t m => by
    rcases List.mem_cons.mp m with e | e
    · rw [e]; trivial
    · rw [List.mem_singleton.mp e]; exact h, by show 2 ≤ 6; decide, by show cntIn [(("hold" : String) : Str), "do"] ["do"] ≠ 0; decide +kernel, by show cntIn [(("hold" : String) : Str), "do"] ["hold"] ≤ 1; decide +kernel, by
    have e : touchB .hold = false := by decide +kernel
    rw [List.filter_cons, if_neg (by rw [e]; decide)]
    exact List.length_filter_le _ _⟩
/-- a good door filled up with new rows -/
theorem six_good {ts : List StepD} {k : Str} (h : GoodL ts) (hk : kindB k = true) (m : Nat) (hm : ts.length + m ≤ 6) : GoodL (ts ++ List.replicate m (.deed [.new k] [])) := by
  induction m with
  | zero => rw [List.replicate_zero, List.append_nil]; exact h
  | succ m ih =>
    have ih := ih (by omega)
    have q := ih.insert (k := k) (ts ++ List.replicate m (StepD.deed [.new k] [])).length (by rw [List.length_append, List.length_replicate]; omega) hk
    rw [List.take_length, List.drop_length] at q
    rw [List.replicate_succ', ← List.append_assoc]
    exact q
end Dr

set_option Elab.async false
set_option linter.all false
set_option maxRecDepth 100000
set_option maxHeartbeats 8000000
/-! Doors: lines with other names for their kinds are read alike, plain. -/
namespace Dr
open PySem L2 Cs
def LITS : List Str := PLAIN ++ RES
structure Ren (r : Str → Str) (S : Str → Prop) : Prop where
  emp : r Str.empty = Str.empty
  semp : S Str.empty
  inj : ∀ x y, S x → S y → r x = r y → x = y
  kd : ∀ x, S x → kindB (r x) = kindB x
  dg : ∀ x, S x → digB (r x) = digB x
  lit : ∀ x, S x → ∀ l ∈ LITS, (r x = l ↔ x = l)
theorem all_cg {α : Type} {f g : α → Bool} {l : List α} (h : ∀ x ∈ l, f x = g x) : l.all f = l.all g := by
  induction l with
  | nil => rfl
  | cons x l ih => rw [List.all_cons, List.all_cons, h x List.mem_cons_self, ih fun y m => h y (List.mem_cons_of_mem _ m)]
theorem nodup_on {α β : Type} {r : α → β} {l : List α} (h : ∀ x ∈ l, ∀ y ∈ l, r x = r y → x = y) : (l.map r).Nodup ↔ l.Nodup := by
  induction l with
  | nil => simp
  | cons x l ih =>
    rw [List.map_cons, List.nodup_cons, List.nodup_cons, ih fun y m z n => h y (List.mem_cons_of_mem _ m) z (List.mem_cons_of_mem _ n)]
    refine and_congr (not_congr ⟨fun q => ?_, fun q => List.mem_map_of_mem q⟩) Iff.rfl
    obtain ⟨y, my, e⟩ := List.mem_map.mp q
    rw [← h y (List.mem_cons_of_mem _ my) x List.mem_cons_self e]
    exact my
section
variable {r : Str → Str} {S : Str → Prop} (R : Ren r S)
include R
theorem Ren.mem {x : Str} (hx : S x) {ls : List Str} (h : ∀ l ∈ ls, l ∈ LITS) : r x ∈ ls ↔ x ∈ ls := by
  constructor
  · intro m
    rw [← (R.lit x hx _ (h _ m)).mp rfl] at m
    exact m
  · intro m
    rw [(R.lit x hx _ (h _ m)).mpr rfl]
    exact m
theorem Ren.one {l : List Str} (h : ∀ z ∈ l, S z) {w : Str} (hw : w ∈ LITS) : l.map r = [w] ↔ l = [w] := by
  match l, h with
  | [], _ => simp
  | [x], h =>
    have q := R.lit x (h x List.mem_cons_self) w hw
    simp [q]
  | x :: y :: l, _ => simp
theorem Ren.last (l : List Str) : (l.map r).getLastD Str.empty = r (l.getLastD Str.empty) := by
  rw [List.getLastD_eq_getLast?, List.getLastD_eq_getLast?, List.getLast?_map]
  cases l.getLast? with
  | none => exact R.emp.symm
  | some x => rfl
theorem Ren.slast {l : List Str} (h : ∀ z ∈ l, S z) : S (l.getLastD Str.empty) := by
  rw [List.getLastD_eq_getLast?]
  cases e : l.getLast? with
  | none => exact R.semp
  | some x => exact h x (List.mem_of_getLast? e)
theorem Ren.head (l : List Str) : (l.map r).headD Str.empty = r (l.headD Str.empty) := by
  cases l with
  | nil => exact R.emp.symm
  | cons x l => rfl
theorem Ren.shead {l : List Str} (h : ∀ z ∈ l, S z) : S (l.headD Str.empty) := by
  cases l with
  | nil => exact R.semp
  | cons x l => exact h x List.mem_cons_self
theorem Ren.kinds {b : Str} (hb : b ∈ LITS) {ts : List Str} (h : ∀ z ∈ ts, S z) : readKinds b (ts.map r) = (readKinds b ts).map (List.map r) := by
  unfold readKinds
  rw [List.length_map, evs_map, ods_map, List.all_map, List.all_map]
  rw [all_cg (l := ods ts) (g := fun z => decide (z = b)) fun x m => by
    show decide (r x = b) = decide (x = b)
    congr 1
    exact propext (R.lit x (h x (ods_mem m)) b hb)]
  rw [all_cg (f := kindB ∘ r) (l := evs ts) (g := kindB) fun x m => R.kd x (h x (evs_mem m))]
  rw [show decide ((evs ts).map r).Nodup = decide (evs ts).Nodup by
    congr 1
    exact propext (nodup_on fun x m y n => R.inj x y (h x (evs_mem m)) (h y (evs_mem n)))]
  split <;> rfl
theorem Ren.sum (o : Bool) {ts : List Str} (h : ∀ z ∈ ts, S z) : (readSum o (ts.map r)).map asks = (readSum o ts).map asks := by
  unfold readSum
  have h1 : ∀ z ∈ ts.dropLast, S z := fun z m => h z ((List.dropLast_sublist ts).subset m)
  have h2 : ∀ z ∈ ts.dropLast.dropLast, S z := fun z m => h1 z ((List.dropLast_sublist _).subset m)
  rw [List.length_map, ← List.map_dropLast, ← List.map_dropLast, R.last, R.last, R.kinds (by decide +kernel) h2, R.dg _ (R.slast h)]
  have e := R.mem (R.slast h1) (ls := SIGNS) (by decide +kernel)
  by_cases c1 : ts.length < 3
  · rw [if_pos c1, if_pos c1]
  rw [if_neg c1, if_neg c1]
  by_cases c2 : ts.dropLast.getLastD Str.empty ∈ SIGNS ∧ digB (ts.getLastD Str.empty) = true
  · rw [if_pos c2, if_pos ⟨e.mpr c2.1, c2.2⟩]
    cases readKinds "+" ts.dropLast.dropLast <;> rfl
  · rw [if_neg c2, if_neg fun q => c2 ⟨e.mp q.1, q.2⟩]
theorem Ren.test {ts : List Str} (h : ∀ z ∈ ts, S z) : (readTest (ts.map r)).map asks = (readTest ts).map asks := by
  unfold readTest
  have h1 : ∀ z ∈ ts.take 1, S z := fun z m => h z (List.mem_of_mem_take m)
  have h2 : ∀ z ∈ ts.drop 1, S z := fun z m => h z (List.mem_of_mem_drop m)
  rw [← List.map_take, ← List.map_drop]
  have e1 := R.one h1 (w := "row") (by decide +kernel)
  have e2 := R.one h1 (w := "other") (by decide +kernel)
  by_cases c1 : ts.take 1 = [(("row" : String) : Str)]
  · rw [if_pos c1, if_pos (e1.mpr c1), R.kinds (by decide +kernel) h2]
    cases readKinds "or" (ts.drop 1) <;> rfl
  rw [if_neg c1, if_neg fun q => c1 (e1.mp q)]
  by_cases c2 : ts.take 1 = [(("other" : String) : Str)]
  · rw [if_pos c2, if_pos (e2.mpr c2)]
    exact R.sum true h2
  rw [if_neg c2, if_neg fun q => c2 (e2.mp q)]
  exact R.sum false h
theorem Ren.split {w : Str} (hw : w ∈ LITS) {ts : List Str} (h : ∀ z ∈ ts, S z) : splitAt w (ts.map r) = (splitAt w ts).map (List.map r) := by
  have key : ∀ (ts : List Str) (gs : List (List Str)), (∀ z ∈ ts, S z) → (ts.map r).foldl (stepG w) (gs.map (List.map r)) = (ts.foldl (stepG w) gs).map (List.map r) := by
    intro ts
    induction ts with
    | nil => exact fun _ _ => rfl
    | cons t ts ih =>
      intro gs h
      rw [List.map_cons, List.foldl_cons, List.foldl_cons, ← ih _ fun z m => h z (List.mem_cons_of_mem _ m)]
      congr 1
      have e := R.lit t (h t List.mem_cons_self) w hw
      unfold stepG
      by_cases c : t = w
      · rw [if_pos c, if_pos (e.mpr c), List.map_append]
        rfl
      · rw [if_neg c, if_neg fun q => c (e.mp q), List.map_append, List.map_dropLast]
        congr 1
        rw [List.getLastD_eq_getLast?, List.getLastD_eq_getLast?, List.getLast?_map]
        cases gs.getLast? with
        | none => rfl
        | some x =>
          show [x.map r ++ [r t]] = [(x ++ [t]).map r]
          rw [List.map_append]
          rfl
  exact key ts [[]] h
end
theorem opts_rel {α γ : Type} {f : α → γ} : ∀ {L L' : List (Option α)}, L'.map (Option.map f) = L.map (Option.map f) → L'.length = L.length ∧ L'.all Option.isSome = L.all Option.isSome ∧ (L'.filterMap id).map f = (L.filterMap id).map f
  | [], [], _ => ⟨rfl, rfl, rfl⟩
  | [], _ :: _, h => by cases h
  | _ :: _, [], h => by cases h
  | o :: L, o' :: L', h => by
    obtain ⟨h1, h2⟩ := List.cons.inj h
    obtain ⟨a, b, c⟩ := opts_rel h2
    refine ⟨by rw [List.length_cons, List.length_cons, a], ?_, ?_⟩
    · rw [List.all_cons, List.all_cons, b]
      congr 1
      cases o <;> cases o' <;> first | rfl | cases h1
    · cases o with
      | none => cases o' with
        | none => exact c
        | some x => cases h1
      | some y => cases o' with
        | none => cases h1
        | some x =>
          show f x :: (L'.filterMap id).map f = f y :: (L.filterMap id).map f
          rw [c]
          have e : some (f x) = some (f y) := h1
          rw [Option.some.inj e]
section
variable {r : Str → Str} {S : Str → Prop} (R : Ren r S)
include R
theorem Ren.tests {ts : List Str} (h : ∀ z ∈ ts, S z) : (readTests (ts.map r)).map (List.map asks) = (readTests ts).map (List.map asks) := by
  unfold readTests
  dsimp only
  rw [R.split (by decide +kernel) h, List.map_map]
  have q : ((splitAt "and" ts).map (readTest ∘ List.map r)).map (Option.map asks) = ((splitAt "and" ts).map readTest).map (Option.map asks) := by
    rw [List.map_map, List.map_map]
    exact List.map_congr_left fun g m => R.test fun z mz => h z (splitAt_mem m mz)
  obtain ⟨a, b, c⟩ := opts_rel q
  rw [a, b]
  split
  · show some _ = some _
    rw [c]
  · rfl
theorem Ren.arrow {w ar af : Str} {m : List Str} (hw : S w) (har : S ar) (haf : S af) (h : ∀ z ∈ m, S z) : (readArrow (r w) (m.map r) (r ar) (r af)).map PartD.word = (readArrow w m ar af).map PartD.word := by
  unfold readArrow
  rw [R.kinds (by decide +kernel) h]
  cases readKinds "or" m with
  | none => rfl
  | some ks =>
    show Option.map _ (if r ar = _ ∧ (kindB (r af) = true ∨ r af = _) then (if _ then _ else match ks.map r with | [k] => _ | _ => none) else none) = _
    have e1 := R.lit ar har "->" (by decide +kernel)
    have e2 := R.lit af haf "gone" (by decide +kernel)
    have w1 := R.lit w hw "row" (by decide +kernel)
    have w2 := R.lit w hw "give" (by decide +kernel)
    have w3 := R.lit w hw "one" (by decide +kernel)
    have w4 := R.lit w hw "all" (by decide +kernel)
    have w5 := R.lit w hw "take" (by decide +kernel)
    simp only [ne_eq, e1, e2, R.kd af haf, w1, w2, w3, w4, w5]
    by_cases c1 : ar = (("->" : String) : Str) ∧ (kindB af = true ∨ af = (("gone" : String) : Str))
    case neg => rw [if_neg c1, if_neg c1]
    rw [if_pos c1, if_pos c1]
    by_cases c2 : w = (("row" : String) : Str) ∨ (w = (("give" : String) : Str) ∧ ¬ af = (("gone" : String) : Str))
    · rw [if_pos c2, if_pos c2]
      show some (r w) = some w
      rcases c2 with e | ⟨e, _⟩
      · rw [w1.mpr e, e]
      · rw [w2.mpr e, e]
    rw [if_neg c2, if_neg c2]
    match ks with
    | [] => rfl
    | [k] =>
      dsimp only [List.map]
      by_cases c3 : w = (("one" : String) : Str) ∨ w = (("all" : String) : Str) ∨ (w = (("take" : String) : Str) ∧ ¬ af = (("gone" : String) : Str))
      · rw [if_pos c3, if_pos c3]
        show some (r w) = some w
        rcases c3 with e | e | ⟨e, _⟩
        · rw [w3.mpr e, e]
        · rw [w4.mpr e, e]
        · rw [w5.mpr e, e]
      · rw [if_neg c3, if_neg c3]
    | x :: y :: k => rfl
theorem Ren.part {zs : List Str} (h : ∀ z ∈ zs, S z) : (readPart (zs.map r)).map PartD.word = (readPart zs).map PartD.word := by
  unfold readPart
  have ht : ∀ z ∈ zs.tail, S z := fun z m => h z (List.mem_of_mem_tail m)
  have h1 : ∀ z ∈ zs.tail.dropLast, S z := fun z m => ht z ((List.dropLast_sublist _).subset m)
  have h2 : ∀ z ∈ zs.tail.dropLast.dropLast, S z := fun z m => h1 z ((List.dropLast_sublist _).subset m)
  have e1 := R.one h (w := "join") (by decide +kernel)
  have e2 := R.lit _ (R.shead h) "new" (by decide +kernel)
  rw [List.length_map, R.head, R.last, ← List.map_tail, ← List.map_dropLast, ← List.map_dropLast, R.last, R.last]
  by_cases c1 : zs = [(("join" : String) : Str)]
  · rw [if_pos c1, if_pos (e1.mpr c1)]
  rw [if_neg c1, if_neg fun q => c1 (e1.mp q)]
  by_cases c2 : zs.length = 2
  · rw [if_pos c2, if_pos c2, R.kd _ (R.slast h)]
    by_cases c3 : zs.headD Str.empty = (("new" : String) : Str) ∧ kindB (zs.getLastD Str.empty) = true
    · rw [if_pos c3, if_pos ⟨e2.mpr c3.1, c3.2⟩]
      rfl
    · rw [if_neg c3, if_neg fun q => c3 ⟨e2.mp q.1, q.2⟩]
  rw [if_neg c2, if_neg c2]
  by_cases c3 : zs.length < 4
  · rw [if_pos c3, if_pos c3]
  rw [if_neg c3, if_neg c3]
  exact R.arrow (R.shead h) (R.slast h1) (R.slast ht) h2
theorem Ren.do {zs : List Str} (h : ∀ z ∈ zs, S z) : (readDo (zs.map r)).isSome = (readDo zs).isSome := by
  unfold readDo
  rw [R.split (by decide +kernel) h]
  have hg : ∀ g ∈ splitAt "if" zs, ∀ z ∈ g, S z := fun g m z mz => h z (splitAt_mem m mz)
  generalize splitAt "if" zs = gs at hg
  have h0 : ∀ z ∈ gs.headD [], S z := by
    cases gs with
    | nil => exact fun z m => by cases m
    | cons g gs => exact hg g List.mem_cons_self
  have h1 : ∀ z ∈ gs.getD 1 [], S z := by
    match gs with
    | [] => exact fun z m => by cases m
    | [g] => exact fun z m => by cases m
    | g :: g2 :: gs => exact hg g2 (by simp)
  have e0 : (gs.map (List.map r)).headD [] = (gs.headD []).map r := by cases gs <;> rfl
  have e1 : (gs.map (List.map r)).getD 1 [] = (gs.getD 1 []).map r := by
    match gs with
    | [] => rfl
    | [g] => rfl
    | g :: g2 :: gs => rfl
  rw [e0, R.split (by decide +kernel) h0, List.map_map]
  have q : ((splitAt "then" (gs.headD [])).map (readPart ∘ List.map r)).map (Option.map PartD.word) = ((splitAt "then" (gs.headD [])).map readPart).map (Option.map PartD.word) := by
    rw [List.map_map, List.map_map]
    exact List.map_congr_left fun g m => R.part fun z mz => h0 z (splitAt_mem m mz)
  obtain ⟨a, b, c⟩ := opts_rel q
  unfold readDoG
  rw [List.length_map, a, b, e1]
  by_cases c1 : gs.length ≤ 2 ∧ ((splitAt "then" (gs.headD [])).map readPart).length ≤ 4 ∧ ((splitAt "then" (gs.headD [])).map readPart).all Option.isSome = true
  case neg => rw [if_neg c1, if_neg c1]
  rw [if_pos c1, if_pos c1]
  have endq : ∀ (t t' : List TestD), t'.map asks = t.map asks → (endDo (((splitAt "then" (gs.headD [])).map (readPart ∘ List.map r)).filterMap id) t').isSome = (endDo (((splitAt "then" (gs.headD [])).map readPart).filterMap id) t).isSome := fun t t' e => by
    unfold endDo
    have ea : t'.any asks = t.any asks := by
      have w : ∀ l : List TestD, l.any asks = (l.map asks).any id := fun l => by rw [List.any_map]; rfl
      rw [w, w, e]
    rw [c, ea]
    split <;> rfl
  by_cases c2 : gs.length = 2
  · rw [if_pos c2, if_pos c2]
    have q2 := R.tests h1
    cases e : readTests (gs.getD 1 []) with
    | none =>
      rw [e] at q2
      cases e' : readTests ((gs.getD 1 []).map r) with
      | none => rfl
      | some t => rw [e'] at q2; cases q2
    | some t =>
      rw [e] at q2
      cases e' : readTests ((gs.getD 1 []).map r) with
      | none => rw [e'] at q2; cases q2
      | some t' =>
        rw [e'] at q2
        exact endq t t' (Option.some.inj q2)
  · rw [if_neg c2, if_neg c2]
    exact endq [] [] rfl
theorem Ren.toks {zs : List Str} (h : ∀ z ∈ zs, S z) : (readToks (zs.map r)).isSome = (readToks zs).isSome := by
  unfold readToks
  have h1 : ∀ z ∈ zs.drop 1, S z := fun z m => h z (List.mem_of_mem_drop m)
  have e1 := R.one h (w := "hold") (by decide +kernel)
  have e2 := R.lit _ (R.shead h) "look" (by decide +kernel)
  have e3 := R.lit _ (R.shead h) "do" (by decide +kernel)
  rw [R.head, ← List.map_drop]
  by_cases c1 : zs = [(("hold" : String) : Str)]
  · rw [if_pos c1, if_pos (e1.mpr c1)]
  rw [if_neg c1, if_neg fun q => c1 (e1.mp q)]
  by_cases c2 : zs.headD Str.empty = (("look" : String) : Str)
  · rw [if_pos c2, if_pos (e2.mpr c2)]
    have q2 := R.tests h1
    cases e : readTests (zs.drop 1) with
    | none =>
      rw [e] at q2
      cases e' : readTests ((zs.drop 1).map r) with
      | none => rfl
      | some t => rw [e'] at q2; cases q2
    | some t =>
      rw [e] at q2
      cases e' : readTests ((zs.drop 1).map r) with
      | none => rw [e'] at q2; cases q2
      | some t' =>
        rw [e'] at q2
        have ea : t'.any asks = t.any asks := by
          have w : ∀ l : List TestD, l.any asks = (l.map asks).any id := fun l => by rw [List.any_map]; rfl
          rw [w, w, Option.some.inj q2]
        show (if t'.any asks = true then none else some (StepD.look t')).isSome = (if t.any asks = true then none else some (StepD.look t)).isSome
        rw [ea]
        split <;> rfl
  rw [if_neg c2, if_neg fun q => c2 (e2.mp q)]
  by_cases c3 : zs.headD Str.empty = (("do" : String) : Str)
  · rw [if_pos c3, if_pos (e3.mpr c3)]
    exact R.do h1
  rw [if_neg c3, if_neg fun q => c3 (e3.mp q)]
end
end Dr

set_option Elab.async false
set_option linter.all false
set_option maxRecDepth 100000
set_option maxHeartbeats 8000000
/-! Doors: the wrong lines of the law, plain. -/
namespace Dr
open PySem L2 Cs
def OTH : List Str := ["", "hold", "Hold", "look", "row", "gone", "<", "10", "<>", "1", "+", "other", "or", "=", "and", "-1", "12", "do", "->", "one", "all", "new", "give", "take", "join", "then", "if"]
/-- tokens of the wrong lines: kinds a and b, a=, a in capitals, others -/
inductive Tk where
  | a | b | e | u
  | lit (z : Str)
def Tk.src : Tk → Str
  | .a => "a"
  | .b => "b"
  | .e => "a="
  | .u => "A"
  | .lit z => z
def Tk.dst (a b : Str) : Tk → Str
  | .a => a
  | .b => b
  | .e => a ++ "="
  | .u => Txt.upper a
  | .lit z => z
def Tk.okB : Tk → Bool
  | .lit z => decide (z ∈ OTH)
  | _ => true
def renT (a b : Str) (z : Str) : Str := if z = (("a" : String) : Str) then a else if z = (("b" : String) : Str) then b else if z = (("a=" : String) : Str) then a ++ "=" else if z = (("A" : String) : Str) then Txt.upper a else z
def eqB (z : Str) : Bool := decide ((TL.tl z).getLast? = some 61) && (match TL.tl z with | c :: _ => decide (c ∈ LET.cps.toList) | [] => false)
def upB (z : Str) : Bool := decide (TL.tl z ≠ []) && (TL.tl z).all fun c => decide (65 ≤ c ∧ c ≤ 90)
def clT (z : Str) : Nat := if kindB z = true then 0 else if eqB z = true then 1 else if upB z = true then 2 else 3
theorem cl_oth : ∀ z ∈ OTH, clT z = 3 := by decide +kernel
theorem cl_lit : ∀ z ∈ LITS, clT z = 3 := by decide +kernel
theorem oth_plain : ∀ z ∈ OTH, z ≠ (("a" : String) : Str) ∧ z ≠ (("b" : String) : Str) ∧ z ≠ (("a=" : String) : Str) ∧ z ≠ (("A" : String) : Str) := by decide +kernel
theorem cl_kind {z : Str} (h : kindB z = true) : clT z = 0 := by unfold clT; rw [if_pos h]
theorem kind_word {z : Str} (h : kindB z = true) : Word z := by
  unfold kindB at h
  rw [Bool.and_eq_true] at h
  exact word_of h.1
theorem kind_let {z : Str} (h : kindB z = true) : ∀ c ∈ TL.tl z, 97 ≤ c ∧ c ≤ 122 := fun c m => by
  have q := (kind_word h).2.2 c m
  have e : ∀ c ∈ LET.cps.toList, 97 ≤ c ∧ c ≤ 122 := by decide +kernel
  exact e c q
theorem kind_tl {z : Str} (h : kindB z = true) : TL.tl z ≠ [] := fun e => by
  have q := (kind_word h).1
  rw [TL.len_tl, e] at q
  cases q
theorem tl_e (a : Str) : TL.tl (a ++ "=") = TL.tl a ++ [61] := by rw [TL.tl_append]; rfl
theorem upper_kind {z : Str} (h : kindB z = true) : Txt.upper z = ⟨z.cps.map PyProof.Rows.up1⟩ := PyProof.Rows.upper_ascii fun c hc => by
  have := kind_let h c hc
  omega
theorem tl_u {z : Str} (h : kindB z = true) : TL.tl (Txt.upper z) = (TL.tl z).map PyProof.Rows.up1 := by
  rw [upper_kind h]
  show (z.cps.map PyProof.Rows.up1).toList = _
  rw [Array.toList_map]
theorem up1_let : ∀ c, 97 ≤ c → c ≤ 122 → 65 ≤ PyProof.Rows.up1 c ∧ PyProof.Rows.up1 c ≤ 90 := fun c h1 h2 => by
  unfold PyProof.Rows.up1
  rw [if_pos ⟨h1, h2⟩]
  omega
theorem u_codes {z : Str} (h : kindB z = true) : ∀ c ∈ TL.tl (Txt.upper z), 65 ≤ c ∧ c ≤ 90 := fun c m => by
  rw [tl_u h] at m
  obtain ⟨d, md, rfl⟩ := List.mem_map.mp m
  have := kind_let h d md
  exact up1_let d this.1 this.2
theorem not_kind {z : Str} {c : Nat} (h : c ∈ TL.tl z) (hc : ¬ (97 ≤ c ∧ c ≤ 122)) : kindB z = false := by
  cases e : kindB z with
  | false => rfl
  | true => exact absurd (kind_let e c h) hc
theorem kind_e {a : Str} : kindB (a ++ "=") = false := not_kind (c := 61) (by rw [tl_e]; simp) (by decide)
theorem u_ne {a : Str} (h : kindB a = true) : TL.tl (Txt.upper a) ≠ [] := fun e => by
  rw [tl_u h] at e
  exact kind_tl h (List.map_eq_nil_iff.mp e)
theorem kind_u {a : Str} (h : kindB a = true) : kindB (Txt.upper a) = false := by
  obtain ⟨c, m⟩ := List.exists_mem_of_ne_nil _ (u_ne h)
  have := u_codes h c m
  exact not_kind m (by omega)
theorem eqB_e {a : Str} (h : kindB a = true) : eqB (a ++ "=") = true := by
  unfold eqB
  rw [tl_e]
  cases e : TL.tl a with
  | nil => exact absurd e (kind_tl h)
  | cons c r =>
    rw [Bool.and_eq_true]
    refine ⟨decide_eq_true (by rw [List.getLast?_append]; rfl), ?_⟩
    show decide (c ∈ LET.cps.toList) = true
    exact decide_eq_true ((kind_word h).2.2 c (by show c ∈ TL.tl a; rw [e]; exact List.mem_cons_self))
theorem eqB_u {a : Str} (h : kindB a = true) : eqB (Txt.upper a) = false := by
  unfold eqB
  rw [decide_eq_false, Bool.false_and]
  intro e
  have := u_codes h 61 (List.mem_of_getLast? e)
  omega
theorem upB_u {a : Str} (h : kindB a = true) : upB (Txt.upper a) = true := by
  unfold upB
  rw [decide_eq_true (u_ne h), Bool.true_and, List.all_eq_true]
  exact fun c m => decide_eq_true (u_codes h c m)
theorem cl_e {a : Str} (h : kindB a = true) : clT (a ++ "=") = 1 := by
  unfold clT
  rw [if_neg (by rw [kind_e]; decide), if_pos (eqB_e h)]
theorem cl_u {a : Str} (h : kindB a = true) : clT (Txt.upper a) = 2 := by
  unfold clT
  rw [if_neg (by rw [kind_u h]; decide), if_neg (by rw [eqB_u h]; decide), if_pos (upB_u h)]
theorem dig_no {z : Str} {c : Nat} (h : c ∈ TL.tl z) (hc : 58 ≤ c) : digB z = false := by
  unfold digB
  show (match TL.tl z with | [c] => decide (c ∈ DIG.cps.toList) | _ => false) = false
  match e : TL.tl z with
  | [] => rfl
  | [d] =>
    rw [e] at h
    rw [List.mem_singleton.mp h] at hc
    have q : ∀ c ∈ DIG.cps.toList, c < 58 := by decide +kernel
    exact decide_eq_false fun m => by have := q d m; omega
  | d :: d2 :: r => rfl
def SrcT (z : Str) : Prop := z = (("a" : String) : Str) ∨ z = (("b" : String) : Str) ∨ z = (("a=" : String) : Str) ∨ z = (("A" : String) : Str) ∨ z ∈ OTH
section
variable {a b : Str} (ha : kindB a = true) (hb : kindB b = true) (hab : a ≠ b)
theorem ren_a : renT a b "a" = a := by unfold renT; rw [if_pos rfl]
theorem ren_b : renT a b "b" = b := by unfold renT; rw [if_neg (by decide +kernel), if_pos rfl]
theorem ren_e : renT a b "a=" = a ++ "=" := by unfold renT; rw [if_neg (by decide +kernel), if_neg (by decide +kernel), if_pos rfl]
theorem ren_u : renT a b "A" = Txt.upper a := by unfold renT; rw [if_neg (by decide +kernel), if_neg (by decide +kernel), if_neg (by decide +kernel), if_pos rfl]
theorem ren_o {z : Str} (h : z ∈ OTH) : renT a b z = z := by
  obtain ⟨h1, h2, h3, h4⟩ := oth_plain z h
  unfold renT
  rw [if_neg h1, if_neg h2, if_neg h3, if_neg h4]
include ha hb hab
theorem ren_ok : Ren (renT a b) SrcT := by
  have ca := cl_kind ha
  have cb := cl_kind hb
  have ce := cl_e ha
  have cu := cl_u ha
  obtain ⟨c0, mc0⟩ := List.exists_mem_of_ne_nil _ (kind_tl ha)
  obtain ⟨d0, md0⟩ := List.exists_mem_of_ne_nil _ (kind_tl hb)
  obtain ⟨u0, mu0⟩ := List.exists_mem_of_ne_nil _ (u_ne ha)
  have lc0 := kind_let ha c0 mc0
  have ld0 := kind_let hb d0 md0
  have lu0 := u_codes ha u0 mu0
  have hne : Str.empty ∈ OTH := by decide +kernel
  have dif : ∀ {x y : Str}, clT x ≠ clT y → x ≠ y := fun h e => h (by rw [e])
  refine ⟨ren_o hne, .inr (.inr (.inr (.inr hne))), ?_, ?_, ?_, ?_⟩
  · intro x y hx hy e
    rcases hx with rfl | rfl | rfl | rfl | hx <;> rcases hy with rfl | rfl | rfl | rfl | hy <;> (try rfl) <;> (try simp only [ren_a, ren_b, ren_e, ren_u] at e) <;> (try rw [ren_o hx] at e) <;> (try rw [ren_o hy] at e) <;>
      first
      | exact e
      | exact absurd e hab
      | exact absurd e.symm hab
      | (refine absurd e (dif ?_); (try rw [cl_oth _ hx]); (try rw [cl_oth _ hy]); simp only [ca, cb, ce, cu]; decide)
  · intro x hx
    rcases hx with rfl | rfl | rfl | rfl | hx
    · rw [ren_a, ha]; decide +kernel
    · rw [ren_b, hb]; decide +kernel
    · rw [ren_e, kind_e]; decide +kernel
    · rw [ren_u, kind_u ha]; decide +kernel
    · rw [ren_o hx]
  · intro x hx
    rcases hx with rfl | rfl | rfl | rfl | hx
    · rw [ren_a, dig_no mc0 (by omega)]; decide +kernel
    · rw [ren_b, dig_no md0 (by omega)]; decide +kernel
    · rw [ren_e, dig_no (z := a ++ "=") (c := c0) (by rw [tl_e]; exact List.mem_append_left _ mc0) (by omega)]; decide +kernel
    · rw [ren_u, dig_no mu0 (by omega)]; decide +kernel
    · rw [ren_o hx]
  · intro x hx l hl
    have cl := cl_lit l hl
    have na : ∀ l ∈ LITS, (("a" : String) : Str) ≠ l ∧ (("b" : String) : Str) ≠ l ∧ (("a=" : String) : Str) ≠ l ∧ (("A" : String) : Str) ≠ l := by decide +kernel
    obtain ⟨n1, n2, n3, n4⟩ := na l hl
    rcases hx with rfl | rfl | rfl | rfl | hx
    · rw [ren_a]; exact ⟨fun e => absurd e (dif (by rw [ca, cl]; decide)), fun e => absurd e n1⟩
    · rw [ren_b]; exact ⟨fun e => absurd e (dif (by rw [cb, cl]; decide)), fun e => absurd e n2⟩
    · rw [ren_e]; exact ⟨fun e => absurd e (dif (by rw [ce, cl]; decide)), fun e => absurd e n3⟩
    · rw [ren_u]; exact ⟨fun e => absurd e (dif (by rw [cu, cl]; decide)), fun e => absurd e n4⟩
    · rw [ren_o hx]
theorem tok_dst {t : Tk} (h : t.okB = true) : TokO (t.dst a b) := by
  have ta := kind_tok ha
  have wa := kind_word ha
  cases t with
  | a => exact ta
  | b => exact kind_tok hb
  | e =>
    refine ⟨?_, ?_, ?_⟩
    · show 32 ∉ TL.tl (a ++ "=")
      rw [tl_e]
      intro m
      rcases List.mem_append.mp m with m | m
      · exact ta.1 m
      · exact absurd m (by decide)
    · show PyData.strOk (a ++ "=") = true
      have h1 := ta.2.1
      have h2 : PyData.strOk (("=" : String) : Str) = true := by decide +kernel
      unfold PyData.strOk at h1 h2 ⊢
      rw [PySem.Str.cps_append, Array.all_append, h1, h2]
      rfl
    · show (a ++ "=").length ≤ 20
      rw [strLen_append, show (("=" : String) : Str).length = 1 from rfl]
      have := wa.2.1
      omega
  | u =>
    refine ⟨fun m => ?_, ?_, ?_⟩
    · have := u_codes ha 32 m
      omega
    · show PyData.strOk (Txt.upper a) = true
      unfold PyData.strOk
      rw [← Array.all_toList, List.all_eq_true]
      intro c hc
      have := u_codes ha c hc
      exact decide_eq_true (by omega)
    · show (Txt.upper a).length ≤ 20
      rw [TL.len_tl, tl_u ha, List.length_map, ← TL.len_tl]
      have := wa.2.1
      omega
  | lit z =>
    have q : ∀ z ∈ OTH, tokB z = true := by decide +kernel
    exact tokB_ok (q z (of_decide_eq_true h))
theorem wrong_line {H : Hp} {L : List Tk} {z : Str} (hl : L.all Tk.okB = true) (hn : L ≠ []) (hk : L.length ≤ 100) (hr : readToks (L.map Tk.src) = none) (e : z = Txt.join " " (L.map (Tk.dst a b))) : LnE H (.str z) none := by
  have R := ren_ok ha hb hab
  have es : ∀ t ∈ L, renT a b t.src = t.dst a b ∧ SrcT t.src := fun t m => by
    have h := List.all_eq_true.mp hl t m
    cases t with
    | a => exact ⟨ren_a, .inl rfl⟩
    | b => exact ⟨ren_b, .inr (.inl rfl)⟩
    | e => exact ⟨ren_e, .inr (.inr (.inl rfl))⟩
    | u => exact ⟨ren_u, .inr (.inr (.inr (.inl rfl)))⟩
    | lit z => exact ⟨ren_o (of_decide_eq_true h), .inr (.inr (.inr (.inr (of_decide_eq_true h))))⟩
  have em : L.map (Tk.dst a b) = (L.map Tk.src).map (renT a b) := by
    rw [List.map_map]
    exact List.map_congr_left fun t m => (es t m).1.symm
  have q := R.toks (zs := L.map Tk.src) fun x m => by
    obtain ⟨t, mt, rfl⟩ := List.mem_map.mp m
    exact (es t mt).2
  rw [hr, ← em] at q
  refine ln_none e (fun c => hn (List.map_eq_nil_iff.mp c)) (by rw [List.length_map]; exact hk) (fun x m => ?_) ?_
  · obtain ⟨t, mt, rfl⟩ := List.mem_map.mp m
    exact tok_dst ha hb hab (List.all_eq_true.mp hl t mt)
  · cases c : readToks (L.map (Tk.dst a b)) with
    | none => rfl
    | some t => rw [c] at q; cases q
end
theorem joinS_one (sep x : Str) : Str.join sep [x] = x := rfl

section
variable {a b : Str} (ha : kindB a = true) (hb : kindB b = true) (hab : a ≠ b)
include ha hb hab
theorem w1_0 : ∀ z ∈ ([(("" : String) : Str), (("hold " : String) : Str), ((" hold" : String) : Str), (("hold hold" : String) : Str), (("Hold" : String) : Str), (("look" : String) : Str), (("look " : String) : Str), (("look row" : String) : Str), (("look row gone" : String) : Str), ((("look " : String) : Str) ++ a)] : List Str), ∀ H : Hp, LnE H (.str z) none := by
  intro z m H
  rcases List.mem_cons.mp m with rfl | m
  · exact wrong_line ha hb hab (L := [.lit ""]) (by decide +kernel) (by simp) (by decide) (by decide +kernel) (by rw [TL.join_eq]; refine TL.ext_tl ?_; simp only [TL.join_eq, List.map_cons, List.map_nil, Tk.dst, joinS_one, joinS_consD, TL.tl_append, List.append_assoc] <;> first | kernel_rfl | rfl)
  rcases List.mem_cons.mp m with rfl | m
  · exact wrong_line ha hb hab (L := [.lit "hold", .lit ""]) (by decide +kernel) (by simp) (by decide) (by decide +kernel) (by rw [TL.join_eq]; refine TL.ext_tl ?_; simp only [TL.join_eq, List.map_cons, List.map_nil, Tk.dst, joinS_one, joinS_consD, TL.tl_append, List.append_assoc] <;> first | kernel_rfl | rfl)
  rcases List.mem_cons.mp m with rfl | m
  · exact wrong_line ha hb hab (L := [.lit "", .lit "hold"]) (by decide +kernel) (by simp) (by decide) (by decide +kernel) (by rw [TL.join_eq]; refine TL.ext_tl ?_; simp only [TL.join_eq, List.map_cons, List.map_nil, Tk.dst, joinS_one, joinS_consD, TL.tl_append, List.append_assoc] <;> first | kernel_rfl | rfl)
  rcases List.mem_cons.mp m with rfl | m
  · exact wrong_line ha hb hab (L := [.lit "hold", .lit "hold"]) (by decide +kernel) (by simp) (by decide) (by decide +kernel) (by rw [TL.join_eq]; refine TL.ext_tl ?_; simp only [TL.join_eq, List.map_cons, List.map_nil, Tk.dst, joinS_one, joinS_consD, TL.tl_append, List.append_assoc] <;> first | kernel_rfl | rfl)
  rcases List.mem_cons.mp m with rfl | m
  · exact wrong_line ha hb hab (L := [.lit "Hold"]) (by decide +kernel) (by simp) (by decide) (by decide +kernel) (by rw [TL.join_eq]; refine TL.ext_tl ?_; simp only [TL.join_eq, List.map_cons, List.map_nil, Tk.dst, joinS_one, joinS_consD, TL.tl_append, List.append_assoc] <;> first | kernel_rfl | rfl)
  rcases List.mem_cons.mp m with rfl | m
  · exact wrong_line ha hb hab (L := [.lit "look"]) (by decide +kernel) (by simp) (by decide) (by decide +kernel) (by rw [TL.join_eq]; refine TL.ext_tl ?_; simp only [TL.join_eq, List.map_cons, List.map_nil, Tk.dst, joinS_one, joinS_consD, TL.tl_append, List.append_assoc] <;> first | kernel_rfl | rfl)
  rcases List.mem_cons.mp m with rfl | m
  · exact wrong_line ha hb hab (L := [.lit "look", .lit ""]) (by decide +kernel) (by simp) (by decide) (by decide +kernel) (by rw [TL.join_eq]; refine TL.ext_tl ?_; simp only [TL.join_eq, List.map_cons, List.map_nil, Tk.dst, joinS_one, joinS_consD, TL.tl_append, List.append_assoc] <;> first | kernel_rfl | rfl)
  rcases List.mem_cons.mp m with rfl | m
  · exact wrong_line ha hb hab (L := [.lit "look", .lit "row"]) (by decide +kernel) (by simp) (by decide) (by decide +kernel) (by rw [TL.join_eq]; refine TL.ext_tl ?_; simp only [TL.join_eq, List.map_cons, List.map_nil, Tk.dst, joinS_one, joinS_consD, TL.tl_append, List.append_assoc] <;> first | kernel_rfl | rfl)
  rcases List.mem_cons.mp m with rfl | m
  · exact wrong_line ha hb hab (L := [.lit "look", .lit "row", .lit "gone"]) (by decide +kernel) (by simp) (by decide) (by decide +kernel) (by rw [TL.join_eq]; refine TL.ext_tl ?_; simp only [TL.join_eq, List.map_cons, List.map_nil, Tk.dst, joinS_one, joinS_consD, TL.tl_append, List.append_assoc] <;> first | kernel_rfl | rfl)
  rw [List.mem_singleton.mp m]
  exact wrong_line ha hb hab (L := [.lit "look", .a]) (by decide +kernel) (by simp) (by decide) (by decide +kernel) (by rw [TL.join_eq]; refine TL.ext_tl ?_; simp only [TL.join_eq, List.map_cons, List.map_nil, Tk.dst, joinS_one, joinS_consD, TL.tl_append, List.append_assoc] <;> first | kernel_rfl | rfl)
theorem w1_1 : ∀ z ∈ ([(((("look " : String) : Str) ++ a) ++ ((" <" : String) : Str)), (((("look " : String) : Str) ++ a) ++ ((" < 10" : String) : Str)), (((("look " : String) : Str) ++ a) ++ ((" <> 1" : String) : Str)), (((((("look " : String) : Str) ++ a) ++ ((" + " : String) : Str)) ++ a) ++ ((" < 1" : String) : Str))] : List Str), ∀ H : Hp, LnE H (.str z) none := by
  intro z m H
  rcases List.mem_cons.mp m with rfl | m
  · exact wrong_line ha hb hab (L := [.lit "look", .a, .lit "<"]) (by decide +kernel) (by simp) (by decide) (by decide +kernel) (by rw [TL.join_eq]; refine TL.ext_tl ?_; simp only [TL.join_eq, List.map_cons, List.map_nil, Tk.dst, joinS_one, joinS_consD, TL.tl_append, List.append_assoc] <;> first | kernel_rfl | rfl)
  rcases List.mem_cons.mp m with rfl | m
  · exact wrong_line ha hb hab (L := [.lit "look", .a, .lit "<", .lit "10"]) (by decide +kernel) (by simp) (by decide) (by decide +kernel) (by rw [TL.join_eq]; refine TL.ext_tl ?_; simp only [TL.join_eq, List.map_cons, List.map_nil, Tk.dst, joinS_one, joinS_consD, TL.tl_append, List.append_assoc] <;> first | kernel_rfl | rfl)
  rcases List.mem_cons.mp m with rfl | m
  · exact wrong_line ha hb hab (L := [.lit "look", .a, .lit "<>", .lit "1"]) (by decide +kernel) (by simp) (by decide) (by decide +kernel) (by rw [TL.join_eq]; refine TL.ext_tl ?_; simp only [TL.join_eq, List.map_cons, List.map_nil, Tk.dst, joinS_one, joinS_consD, TL.tl_append, List.append_assoc] <;> first | kernel_rfl | rfl)
  rw [List.mem_singleton.mp m]
  exact wrong_line ha hb hab (L := [.lit "look", .a, .lit "+", .a, .lit "<", .lit "1"]) (by decide +kernel) (by simp) (by decide) (by decide +kernel) (by rw [TL.join_eq]; refine TL.ext_tl ?_; simp only [TL.join_eq, List.map_cons, List.map_nil, Tk.dst, joinS_one, joinS_consD, TL.tl_append, List.append_assoc] <;> first | kernel_rfl | rfl)
theorem w1_2 : ∀ z ∈ ([(((("look " : String) : Str) ++ a) ++ ((" + < 1" : String) : Str)), (((("look other " : String) : Str) ++ a) ++ ((" < 1" : String) : Str)), ((((("look row " : String) : Str) ++ a) ++ ((" or " : String) : Str)) ++ a), ((("look  row " : String) : Str) ++ a)] : List Str), ∀ H : Hp, LnE H (.str z) none := by
  intro z m H
  rcases List.mem_cons.mp m with rfl | m
  · exact wrong_line ha hb hab (L := [.lit "look", .a, .lit "+", .lit "<", .lit "1"]) (by decide +kernel) (by simp) (by decide) (by decide +kernel) (by rw [TL.join_eq]; refine TL.ext_tl ?_; simp only [TL.join_eq, List.map_cons, List.map_nil, Tk.dst, joinS_one, joinS_consD, TL.tl_append, List.append_assoc] <;> first | kernel_rfl | rfl)
  rcases List.mem_cons.mp m with rfl | m
  · exact wrong_line ha hb hab (L := [.lit "look", .lit "other", .a, .lit "<", .lit "1"]) (by decide +kernel) (by simp) (by decide) (by decide +kernel) (by rw [TL.join_eq]; refine TL.ext_tl ?_; simp only [TL.join_eq, List.map_cons, List.map_nil, Tk.dst, joinS_one, joinS_consD, TL.tl_append, List.append_assoc] <;> first | kernel_rfl | rfl)
  rcases List.mem_cons.mp m with rfl | m
  · exact wrong_line ha hb hab (L := [.lit "look", .lit "row", .a, .lit "or", .a]) (by decide +kernel) (by simp) (by decide) (by decide +kernel) (by rw [TL.join_eq]; refine TL.ext_tl ?_; simp only [TL.join_eq, List.map_cons, List.map_nil, Tk.dst, joinS_one, joinS_consD, TL.tl_append, List.append_assoc] <;> first | kernel_rfl | rfl)
  rw [List.mem_singleton.mp m]
  exact wrong_line ha hb hab (L := [.lit "look", .lit "", .lit "row", .a]) (by decide +kernel) (by simp) (by decide) (by decide +kernel) (by rw [TL.join_eq]; refine TL.ext_tl ?_; simp only [TL.join_eq, List.map_cons, List.map_nil, Tk.dst, joinS_one, joinS_consD, TL.tl_append, List.append_assoc] <;> first | kernel_rfl | rfl)
theorem w1_3 : ∀ z ∈ ([(((("look " : String) : Str) ++ a) ++ ((" = 1 and" : String) : Str)), (((((("look " : String) : Str) ++ a) ++ ((" = 1 or " : String) : Str)) ++ b) ++ ((" = 1" : String) : Str))] : List Str), ∀ H : Hp, LnE H (.str z) none := by
  intro z m H
  rcases List.mem_cons.mp m with rfl | m
  · exact wrong_line ha hb hab (L := [.lit "look", .a, .lit "=", .lit "1", .lit "and"]) (by decide +kernel) (by simp) (by decide) (by decide +kernel) (by rw [TL.join_eq]; refine TL.ext_tl ?_; simp only [TL.join_eq, List.map_cons, List.map_nil, Tk.dst, joinS_one, joinS_consD, TL.tl_append, List.append_assoc] <;> first | kernel_rfl | rfl)
  rw [List.mem_singleton.mp m]
  exact wrong_line ha hb hab (L := [.lit "look", .a, .lit "=", .lit "1", .lit "or", .b, .lit "=", .lit "1"]) (by decide +kernel) (by simp) (by decide) (by decide +kernel) (by rw [TL.join_eq]; refine TL.ext_tl ?_; simp only [TL.join_eq, List.map_cons, List.map_nil, Tk.dst, joinS_one, joinS_consD, TL.tl_append, List.append_assoc] <;> first | kernel_rfl | rfl)
theorem w1_4 : ∀ z ∈ ([(((((("look " : String) : Str) ++ a) ++ ((" = 1 and  " : String) : Str)) ++ b) ++ ((" = 1" : String) : Str)), (((("look " : String) : Str) ++ a) ++ ((" = -1" : String) : Str)), (((("look " : String) : Str) ++ a) ++ (("= 1" : String) : Str)), ((("look 1 = " : String) : Str) ++ a)] : List Str), ∀ H : Hp, LnE H (.str z) none := by
  intro z m H
  rcases List.mem_cons.mp m with rfl | m
  · exact wrong_line ha hb hab (L := [.lit "look", .a, .lit "=", .lit "1", .lit "and", .lit "", .b, .lit "=", .lit "1"]) (by decide +kernel) (by simp) (by decide) (by decide +kernel) (by rw [TL.join_eq]; refine TL.ext_tl ?_; simp only [TL.join_eq, List.map_cons, List.map_nil, Tk.dst, joinS_one, joinS_consD, TL.tl_append, List.append_assoc] <;> first | kernel_rfl | rfl)
  rcases List.mem_cons.mp m with rfl | m
  · exact wrong_line ha hb hab (L := [.lit "look", .a, .lit "=", .lit "-1"]) (by decide +kernel) (by simp) (by decide) (by decide +kernel) (by rw [TL.join_eq]; refine TL.ext_tl ?_; simp only [TL.join_eq, List.map_cons, List.map_nil, Tk.dst, joinS_one, joinS_consD, TL.tl_append, List.append_assoc] <;> first | kernel_rfl | rfl)
  rcases List.mem_cons.mp m with rfl | m
  · exact wrong_line ha hb hab (L := [.lit "look", .e, .lit "1"]) (by decide +kernel) (by simp) (by decide) (by decide +kernel) (by rw [TL.join_eq]; refine TL.ext_tl ?_; simp only [TL.join_eq, List.map_cons, List.map_nil, Tk.dst, joinS_one, joinS_consD, TL.tl_append, List.append_assoc] <;> first | kernel_rfl | rfl)
  rw [List.mem_singleton.mp m]
  exact wrong_line ha hb hab (L := [.lit "look", .lit "1", .lit "=", .a]) (by decide +kernel) (by simp) (by decide) (by decide +kernel) (by rw [TL.join_eq]; refine TL.ext_tl ?_; simp only [TL.join_eq, List.map_cons, List.map_nil, Tk.dst, joinS_one, joinS_consD, TL.tl_append, List.append_assoc] <;> first | kernel_rfl | rfl)
theorem w1_5 : ∀ z ∈ ([(("look gone = 1" : String) : Str), (((("look row " : String) : Str) ++ a) ++ ((" and row" : String) : Str)), ((("look " : String) : Str) ++ (Txt.join ((" and " : String) : Str) [(a ++ ((" = 1" : String) : Str)), (a ++ ((" = 1" : String) : Str)), (a ++ ((" = 1" : String) : Str)), (a ++ ((" = 1" : String) : Str)), (a ++ ((" = 1" : String) : Str))]))] : List Str), ∀ H : Hp, LnE H (.str z) none := by
  intro z m H
  rcases List.mem_cons.mp m with rfl | m
  · exact wrong_line ha hb hab (L := [.lit "look", .lit "gone", .lit "=", .lit "1"]) (by decide +kernel) (by simp) (by decide) (by decide +kernel) (by rw [TL.join_eq]; refine TL.ext_tl ?_; simp only [TL.join_eq, List.map_cons, List.map_nil, Tk.dst, joinS_one, joinS_consD, TL.tl_append, List.append_assoc] <;> first | kernel_rfl | rfl)
  rcases List.mem_cons.mp m with rfl | m
  · exact wrong_line ha hb hab (L := [.lit "look", .lit "row", .a, .lit "and", .lit "row"]) (by decide +kernel) (by simp) (by decide) (by decide +kernel) (by rw [TL.join_eq]; refine TL.ext_tl ?_; simp only [TL.join_eq, List.map_cons, List.map_nil, Tk.dst, joinS_one, joinS_consD, TL.tl_append, List.append_assoc] <;> first | kernel_rfl | rfl)
  rw [List.mem_singleton.mp m]
  exact wrong_line ha hb hab (L := [.lit "look", .a, .lit "=", .lit "1", .lit "and", .a, .lit "=", .lit "1", .lit "and", .a, .lit "=", .lit "1", .lit "and", .a, .lit "=", .lit "1", .lit "and", .a, .lit "=", .lit "1"]) (by decide +kernel) (by simp) (by decide) (by decide +kernel) (by rw [TL.join_eq]; refine TL.ext_tl ?_; simp only [TL.join_eq, List.map_cons, List.map_nil, Tk.dst, joinS_one, joinS_consD, TL.tl_append, List.append_assoc] <;> first | kernel_rfl | rfl)
theorem w1_6 : ∀ z ∈ ([(((("look row " : String) : Str) ++ a) ++ ((" = 1" : String) : Str)), (((((("look " : String) : Str) ++ a) ++ ((" or " : String) : Str)) ++ b) ++ ((" = 1" : String) : Str))] : List Str), ∀ H : Hp, LnE H (.str z) none := by
  intro z m H
  rcases List.mem_cons.mp m with rfl | m
  · exact wrong_line ha hb hab (L := [.lit "look", .lit "row", .a, .lit "=", .lit "1"]) (by decide +kernel) (by simp) (by decide) (by decide +kernel) (by rw [TL.join_eq]; refine TL.ext_tl ?_; simp only [TL.join_eq, List.map_cons, List.map_nil, Tk.dst, joinS_one, joinS_consD, TL.tl_append, List.append_assoc] <;> first | kernel_rfl | rfl)
  rw [List.mem_singleton.mp m]
  exact wrong_line ha hb hab (L := [.lit "look", .a, .lit "or", .b, .lit "=", .lit "1"]) (by decide +kernel) (by simp) (by decide) (by decide +kernel) (by rw [TL.join_eq]; refine TL.ext_tl ?_; simp only [TL.join_eq, List.map_cons, List.map_nil, Tk.dst, joinS_one, joinS_consD, TL.tl_append, List.append_assoc] <;> first | kernel_rfl | rfl)
theorem w1_7 : ∀ z ∈ ([((((("look row " : String) : Str) ++ a) ++ ((" + " : String) : Str)) ++ b), (((("look " : String) : Str) ++ (Txt.upper a)) ++ ((" = 1" : String) : Str)), (((("hold look " : String) : Str) ++ a) ++ ((" = 1" : String) : Str))] : List Str), ∀ H : Hp, LnE H (.str z) none := by
  intro z m H
  rcases List.mem_cons.mp m with rfl | m
  · exact wrong_line ha hb hab (L := [.lit "look", .lit "row", .a, .lit "+", .b]) (by decide +kernel) (by simp) (by decide) (by decide +kernel) (by rw [TL.join_eq]; refine TL.ext_tl ?_; simp only [TL.join_eq, List.map_cons, List.map_nil, Tk.dst, joinS_one, joinS_consD, TL.tl_append, List.append_assoc] <;> first | kernel_rfl | rfl)
  rcases List.mem_cons.mp m with rfl | m
  · exact wrong_line ha hb hab (L := [.lit "look", .u, .lit "=", .lit "1"]) (by decide +kernel) (by simp) (by decide) (by decide +kernel) (by rw [TL.join_eq]; refine TL.ext_tl ?_; simp only [TL.join_eq, List.map_cons, List.map_nil, Tk.dst, joinS_one, joinS_consD, TL.tl_append, List.append_assoc] <;> first | kernel_rfl | rfl)
  rw [List.mem_singleton.mp m]
  exact wrong_line ha hb hab (L := [.lit "hold", .lit "look", .a, .lit "=", .lit "1"]) (by decide +kernel) (by simp) (by decide) (by decide +kernel) (by rw [TL.join_eq]; refine TL.ext_tl ?_; simp only [TL.join_eq, List.map_cons, List.map_nil, Tk.dst, joinS_one, joinS_consD, TL.tl_append, List.append_assoc] <;> first | kernel_rfl | rfl)
theorem w1_8 : ∀ z ∈ ([(((("look " : String) : Str) ++ a) ++ ((" < 12" : String) : Str)), (((("look " : String) : Str) ++ a) ++ ((" < " : String) : Str))] : List Str), ∀ H : Hp, LnE H (.str z) none := by
  intro z m H
  rcases List.mem_cons.mp m with rfl | m
  · exact wrong_line ha hb hab (L := [.lit "look", .a, .lit "<", .lit "12"]) (by decide +kernel) (by simp) (by decide) (by decide +kernel) (by rw [TL.join_eq]; refine TL.ext_tl ?_; simp only [TL.join_eq, List.map_cons, List.map_nil, Tk.dst, joinS_one, joinS_consD, TL.tl_append, List.append_assoc] <;> first | kernel_rfl | rfl)
  rw [List.mem_singleton.mp m]
  exact wrong_line ha hb hab (L := [.lit "look", .a, .lit "<", .lit ""]) (by decide +kernel) (by simp) (by decide) (by decide +kernel) (by rw [TL.join_eq]; refine TL.ext_tl ?_; simp only [TL.join_eq, List.map_cons, List.map_nil, Tk.dst, joinS_one, joinS_consD, TL.tl_append, List.append_assoc] <;> first | kernel_rfl | rfl)
theorem w2_1 : ∀ z ∈ ([(("do" : String) : Str), (("do " : String) : Str), ((("do row " : String) : Str) ++ a), (((("do row " : String) : Str) ++ a) ++ ((" -> " : String) : Str)), ((((("do " : String) : Str) ++ ((((("row " : String) : Str) ++ a) ++ ((" -> " : String) : Str)) ++ b)) ++ ((" " : String) : Str)) ++ a)] : List Str), ∀ H : Hp, LnE H (.str z) none := by
  intro z m H
  rcases List.mem_cons.mp m with rfl | m
  · exact wrong_line ha hb hab (L := [.lit "do"]) (by decide +kernel) (by simp) (by decide) (by decide +kernel) (by rw [TL.join_eq]; refine TL.ext_tl ?_; simp only [TL.join_eq, List.map_cons, List.map_nil, Tk.dst, joinS_one, joinS_consD, TL.tl_append, List.append_assoc] <;> first | kernel_rfl | rfl)
  rcases List.mem_cons.mp m with rfl | m
  · exact wrong_line ha hb hab (L := [.lit "do", .lit ""]) (by decide +kernel) (by simp) (by decide) (by decide +kernel) (by rw [TL.join_eq]; refine TL.ext_tl ?_; simp only [TL.join_eq, List.map_cons, List.map_nil, Tk.dst, joinS_one, joinS_consD, TL.tl_append, List.append_assoc] <;> first | kernel_rfl | rfl)
  rcases List.mem_cons.mp m with rfl | m
  · exact wrong_line ha hb hab (L := [.lit "do", .lit "row", .a]) (by decide +kernel) (by simp) (by decide) (by decide +kernel) (by rw [TL.join_eq]; refine TL.ext_tl ?_; simp only [TL.join_eq, List.map_cons, List.map_nil, Tk.dst, joinS_one, joinS_consD, TL.tl_append, List.append_assoc] <;> first | kernel_rfl | rfl)
  rcases List.mem_cons.mp m with rfl | m
  · exact wrong_line ha hb hab (L := [.lit "do", .lit "row", .a, .lit "->", .lit ""]) (by decide +kernel) (by simp) (by decide) (by decide +kernel) (by rw [TL.join_eq]; refine TL.ext_tl ?_; simp only [TL.join_eq, List.map_cons, List.map_nil, Tk.dst, joinS_one, joinS_consD, TL.tl_append, List.append_assoc] <;> first | kernel_rfl | rfl)
  rw [List.mem_singleton.mp m]
  exact wrong_line ha hb hab (L := [.lit "do", .lit "row", .a, .lit "->", .b, .a]) (by decide +kernel) (by simp) (by decide) (by decide +kernel) (by rw [TL.join_eq]; refine TL.ext_tl ?_; simp only [TL.join_eq, List.map_cons, List.map_nil, Tk.dst, joinS_one, joinS_consD, TL.tl_append, List.append_assoc] <;> first | kernel_rfl | rfl)
theorem w2_2 : ∀ z ∈ ([((((((("do row " : String) : Str) ++ a) ++ ((" + " : String) : Str)) ++ b) ++ ((" -> " : String) : Str)) ++ a)] : List Str), ∀ H : Hp, LnE H (.str z) none := by
  intro z m H
  rw [List.mem_singleton.mp m]
  exact wrong_line ha hb hab (L := [.lit "do", .lit "row", .a, .lit "+", .b, .lit "->", .a]) (by decide +kernel) (by simp) (by decide) (by decide +kernel) (by rw [TL.join_eq]; refine TL.ext_tl ?_; simp only [TL.join_eq, List.map_cons, List.map_nil, Tk.dst, joinS_one, joinS_consD, TL.tl_append, List.append_assoc] <;> first | kernel_rfl | rfl)
theorem w2_3 : ∀ z ∈ ([((((((("do one " : String) : Str) ++ a) ++ ((" or " : String) : Str)) ++ b) ++ ((" -> " : String) : Str)) ++ a), (((((("do all " : String) : Str) ++ a) ++ ((" or " : String) : Str)) ++ b) ++ ((" -> gone" : String) : Str)), (("do new gone" : String) : Str)] : List Str), ∀ H : Hp, LnE H (.str z) none := by
  intro z m H
  rcases List.mem_cons.mp m with rfl | m
  · exact wrong_line ha hb hab (L := [.lit "do", .lit "one", .a, .lit "or", .b, .lit "->", .a]) (by decide +kernel) (by simp) (by decide) (by decide +kernel) (by rw [TL.join_eq]; refine TL.ext_tl ?_; simp only [TL.join_eq, List.map_cons, List.map_nil, Tk.dst, joinS_one, joinS_consD, TL.tl_append, List.append_assoc] <;> first | kernel_rfl | rfl)
  rcases List.mem_cons.mp m with rfl | m
  · exact wrong_line ha hb hab (L := [.lit "do", .lit "all", .a, .lit "or", .b, .lit "->", .lit "gone"]) (by decide +kernel) (by simp) (by decide) (by decide +kernel) (by rw [TL.join_eq]; refine TL.ext_tl ?_; simp only [TL.join_eq, List.map_cons, List.map_nil, Tk.dst, joinS_one, joinS_consD, TL.tl_append, List.append_assoc] <;> first | kernel_rfl | rfl)
  rw [List.mem_singleton.mp m]
  exact wrong_line ha hb hab (L := [.lit "do", .lit "new", .lit "gone"]) (by decide +kernel) (by simp) (by decide) (by decide +kernel) (by rw [TL.join_eq]; refine TL.ext_tl ?_; simp only [TL.join_eq, List.map_cons, List.map_nil, Tk.dst, joinS_one, joinS_consD, TL.tl_append, List.append_assoc] <;> first | kernel_rfl | rfl)
theorem w2_4 : ∀ z ∈ ([((((("do new " : String) : Str) ++ a) ++ ((" or " : String) : Str)) ++ b), (("do new" : String) : Str), (((("do give " : String) : Str) ++ a) ++ ((" -> gone" : String) : Str)), (((("do take " : String) : Str) ++ a) ++ ((" -> gone" : String) : Str))] : List Str), ∀ H : Hp, LnE H (.str z) none := by
  intro z m H
  rcases List.mem_cons.mp m with rfl | m
  · exact wrong_line ha hb hab (L := [.lit "do", .lit "new", .a, .lit "or", .b]) (by decide +kernel) (by simp) (by decide) (by decide +kernel) (by rw [TL.join_eq]; refine TL.ext_tl ?_; simp only [TL.join_eq, List.map_cons, List.map_nil, Tk.dst, joinS_one, joinS_consD, TL.tl_append, List.append_assoc] <;> first | kernel_rfl | rfl)
  rcases List.mem_cons.mp m with rfl | m
  · exact wrong_line ha hb hab (L := [.lit "do", .lit "new"]) (by decide +kernel) (by simp) (by decide) (by decide +kernel) (by rw [TL.join_eq]; refine TL.ext_tl ?_; simp only [TL.join_eq, List.map_cons, List.map_nil, Tk.dst, joinS_one, joinS_consD, TL.tl_append, List.append_assoc] <;> first | kernel_rfl | rfl)
  rcases List.mem_cons.mp m with rfl | m
  · exact wrong_line ha hb hab (L := [.lit "do", .lit "give", .a, .lit "->", .lit "gone"]) (by decide +kernel) (by simp) (by decide) (by decide +kernel) (by rw [TL.join_eq]; refine TL.ext_tl ?_; simp only [TL.join_eq, List.map_cons, List.map_nil, Tk.dst, joinS_one, joinS_consD, TL.tl_append, List.append_assoc] <;> first | kernel_rfl | rfl)
  rw [List.mem_singleton.mp m]
  exact wrong_line ha hb hab (L := [.lit "do", .lit "take", .a, .lit "->", .lit "gone"]) (by decide +kernel) (by simp) (by decide) (by decide +kernel) (by rw [TL.join_eq]; refine TL.ext_tl ?_; simp only [TL.join_eq, List.map_cons, List.map_nil, Tk.dst, joinS_one, joinS_consD, TL.tl_append, List.append_assoc] <;> first | kernel_rfl | rfl)
theorem w2_5 : ∀ z ∈ ([((((((("do take " : String) : Str) ++ a) ++ ((" or " : String) : Str)) ++ b) ++ ((" -> " : String) : Str)) ++ a), ((("do join " : String) : Str) ++ a), ((((("do " : String) : Str) ++ ((((("row " : String) : Str) ++ a) ++ ((" -> " : String) : Str)) ++ b)) ++ ((" then " : String) : Str)) ++ ((((("row " : String) : Str) ++ a) ++ ((" -> " : String) : Str)) ++ b))] : List Str), ∀ H : Hp, LnE H (.str z) none := by
  intro z m H
  rcases List.mem_cons.mp m with rfl | m
  · exact wrong_line ha hb hab (L := [.lit "do", .lit "take", .a, .lit "or", .b, .lit "->", .a]) (by decide +kernel) (by simp) (by decide) (by decide +kernel) (by rw [TL.join_eq]; refine TL.ext_tl ?_; simp only [TL.join_eq, List.map_cons, List.map_nil, Tk.dst, joinS_one, joinS_consD, TL.tl_append, List.append_assoc] <;> first | kernel_rfl | rfl)
  rcases List.mem_cons.mp m with rfl | m
  · exact wrong_line ha hb hab (L := [.lit "do", .lit "join", .a]) (by decide +kernel) (by simp) (by decide) (by decide +kernel) (by rw [TL.join_eq]; refine TL.ext_tl ?_; simp only [TL.join_eq, List.map_cons, List.map_nil, Tk.dst, joinS_one, joinS_consD, TL.tl_append, List.append_assoc] <;> first | kernel_rfl | rfl)
  rw [List.mem_singleton.mp m]
  exact wrong_line ha hb hab (L := [.lit "do", .lit "row", .a, .lit "->", .b, .lit "then", .lit "row", .a, .lit "->", .b]) (by decide +kernel) (by simp) (by decide) (by decide +kernel) (by rw [TL.join_eq]; refine TL.ext_tl ?_; simp only [TL.join_eq, List.map_cons, List.map_nil, Tk.dst, joinS_one, joinS_consD, TL.tl_append, List.append_assoc] <;> first | kernel_rfl | rfl)
theorem w2_6 : ∀ z ∈ ([((((((("do " : String) : Str) ++ ((((("row " : String) : Str) ++ a) ++ ((" -> " : String) : Str)) ++ b)) ++ ((" then give " : String) : Str)) ++ a) ++ ((" -> " : String) : Str)) ++ b), (((((("do take " : String) : Str) ++ a) ++ ((" -> " : String) : Str)) ++ b) ++ ((" then join" : String) : Str))] : List Str), ∀ H : Hp, LnE H (.str z) none := by
  intro z m H
  rcases List.mem_cons.mp m with rfl | m
  · exact wrong_line ha hb hab (L := [.lit "do", .lit "row", .a, .lit "->", .b, .lit "then", .lit "give", .a, .lit "->", .b]) (by decide +kernel) (by simp) (by decide) (by decide +kernel) (by rw [TL.join_eq]; refine TL.ext_tl ?_; simp only [TL.join_eq, List.map_cons, List.map_nil, Tk.dst, joinS_one, joinS_consD, TL.tl_append, List.append_assoc] <;> first | kernel_rfl | rfl)
  rw [List.mem_singleton.mp m]
  exact wrong_line ha hb hab (L := [.lit "do", .lit "take", .a, .lit "->", .b, .lit "then", .lit "join"]) (by decide +kernel) (by simp) (by decide) (by decide +kernel) (by rw [TL.join_eq]; refine TL.ext_tl ?_; simp only [TL.join_eq, List.map_cons, List.map_nil, Tk.dst, joinS_one, joinS_consD, TL.tl_append, List.append_assoc] <;> first | kernel_rfl | rfl)
theorem w2_7 : ∀ z ∈ ([(((("do new " : String) : Str) ++ a) ++ ((" then" : String) : Str))] : List Str), ∀ H : Hp, LnE H (.str z) none := by
  intro z m H
  rw [List.mem_singleton.mp m]
  exact wrong_line ha hb hab (L := [.lit "do", .lit "new", .a, .lit "then"]) (by decide +kernel) (by simp) (by decide) (by decide +kernel) (by rw [TL.join_eq]; refine TL.ext_tl ?_; simp only [TL.join_eq, List.map_cons, List.map_nil, Tk.dst, joinS_one, joinS_consD, TL.tl_append, List.append_assoc] <;> first | kernel_rfl | rfl)
theorem w2_8 : ∀ z ∈ ([(((("do new " : String) : Str) ++ a) ++ ((" if" : String) : Str)), (((((("do new " : String) : Str) ++ a) ++ ((" if other " : String) : Str)) ++ a) ++ ((" < 1" : String) : Str)), ((((("do new " : String) : Str) ++ a) ++ ((" and new " : String) : Str)) ++ b)] : List Str), ∀ H : Hp, LnE H (.str z) none := by
  intro z m H
  rcases List.mem_cons.mp m with rfl | m
  · exact wrong_line ha hb hab (L := [.lit "do", .lit "new", .a, .lit "if"]) (by decide +kernel) (by simp) (by decide) (by decide +kernel) (by rw [TL.join_eq]; refine TL.ext_tl ?_; simp only [TL.join_eq, List.map_cons, List.map_nil, Tk.dst, joinS_one, joinS_consD, TL.tl_append, List.append_assoc] <;> first | kernel_rfl | rfl)
  rcases List.mem_cons.mp m with rfl | m
  · exact wrong_line ha hb hab (L := [.lit "do", .lit "new", .a, .lit "if", .lit "other", .a, .lit "<", .lit "1"]) (by decide +kernel) (by simp) (by decide) (by decide +kernel) (by rw [TL.join_eq]; refine TL.ext_tl ?_; simp only [TL.join_eq, List.map_cons, List.map_nil, Tk.dst, joinS_one, joinS_consD, TL.tl_append, List.append_assoc] <;> first | kernel_rfl | rfl)
  rw [List.mem_singleton.mp m]
  exact wrong_line ha hb hab (L := [.lit "do", .lit "new", .a, .lit "and", .lit "new", .b]) (by decide +kernel) (by simp) (by decide) (by decide +kernel) (by rw [TL.join_eq]; refine TL.ext_tl ?_; simp only [TL.join_eq, List.map_cons, List.map_nil, Tk.dst, joinS_one, joinS_consD, TL.tl_append, List.append_assoc] <;> first | kernel_rfl | rfl)
theorem w2_9 : ∀ z ∈ ([(((((((("do new " : String) : Str) ++ a) ++ ((" if " : String) : Str)) ++ a) ++ ((" < 1 if " : String) : Str)) ++ b) ++ ((" < 1" : String) : Str)), ((("do " : String) : Str) ++ (Txt.join ((" then " : String) : Str) [((("new " : String) : Str) ++ a), ((("new " : String) : Str) ++ a), ((("new " : String) : Str) ++ a), ((("new " : String) : Str) ++ a), ((("new " : String) : Str) ++ a)]))] : List Str), ∀ H : Hp, LnE H (.str z) none := by
  intro z m H
  rcases List.mem_cons.mp m with rfl | m
  · exact wrong_line ha hb hab (L := [.lit "do", .lit "new", .a, .lit "if", .a, .lit "<", .lit "1", .lit "if", .b, .lit "<", .lit "1"]) (by decide +kernel) (by simp) (by decide) (by decide +kernel) (by rw [TL.join_eq]; refine TL.ext_tl ?_; simp only [TL.join_eq, List.map_cons, List.map_nil, Tk.dst, joinS_one, joinS_consD, TL.tl_append, List.append_assoc] <;> first | kernel_rfl | rfl)
  rw [List.mem_singleton.mp m]
  exact wrong_line ha hb hab (L := [.lit "do", .lit "new", .a, .lit "then", .lit "new", .a, .lit "then", .lit "new", .a, .lit "then", .lit "new", .a, .lit "then", .lit "new", .a]) (by decide +kernel) (by simp) (by decide) (by decide +kernel) (by rw [TL.join_eq]; refine TL.ext_tl ?_; simp only [TL.join_eq, List.map_cons, List.map_nil, Tk.dst, joinS_one, joinS_consD, TL.tl_append, List.append_assoc] <;> first | kernel_rfl | rfl)
theorem w2_10 : ∀ z ∈ ([((((("do new " : String) : Str) ++ a) ++ ((" if " : String) : Str)) ++ (Txt.join ((" and " : String) : Str) [(b ++ ((" < 1" : String) : Str)), (b ++ ((" < 1" : String) : Str)), (b ++ ((" < 1" : String) : Str)), (b ++ ((" < 1" : String) : Str)), (b ++ ((" < 1" : String) : Str))])), ((((("do join if " : String) : Str) ++ a) ++ ((" = 1 then new " : String) : Str)) ++ b)] : List Str), ∀ H : Hp, LnE H (.str z) none := by
  intro z m H
  rcases List.mem_cons.mp m with rfl | m
  · exact wrong_line ha hb hab (L := [.lit "do", .lit "new", .a, .lit "if", .b, .lit "<", .lit "1", .lit "and", .b, .lit "<", .lit "1", .lit "and", .b, .lit "<", .lit "1", .lit "and", .b, .lit "<", .lit "1", .lit "and", .b, .lit "<", .lit "1"]) (by decide +kernel) (by simp) (by decide) (by decide +kernel) (by rw [TL.join_eq]; refine TL.ext_tl ?_; simp only [TL.join_eq, List.map_cons, List.map_nil, Tk.dst, joinS_one, joinS_consD, TL.tl_append, List.append_assoc] <;> first | kernel_rfl | rfl)
  rw [List.mem_singleton.mp m]
  exact wrong_line ha hb hab (L := [.lit "do", .lit "join", .lit "if", .a, .lit "=", .lit "1", .lit "then", .lit "new", .b]) (by decide +kernel) (by simp) (by decide) (by decide +kernel) (by rw [TL.join_eq]; refine TL.ext_tl ?_; simp only [TL.join_eq, List.map_cons, List.map_nil, Tk.dst, joinS_one, joinS_consD, TL.tl_append, List.append_assoc] <;> first | kernel_rfl | rfl)
theorem w2_11 : ∀ z ∈ ([((("new " : String) : Str) ++ a), ((("do -> " : String) : Str) ++ a), ((("do row -> " : String) : Str) ++ a), ((("do  new " : String) : Str) ++ a), (((("do new " : String) : Str) ++ a) ++ ((" " : String) : Str))] : List Str), ∀ H : Hp, LnE H (.str z) none := by
  intro z m H
  rcases List.mem_cons.mp m with rfl | m
  · exact wrong_line ha hb hab (L := [.lit "new", .a]) (by decide +kernel) (by simp) (by decide) (by decide +kernel) (by rw [TL.join_eq]; refine TL.ext_tl ?_; simp only [TL.join_eq, List.map_cons, List.map_nil, Tk.dst, joinS_one, joinS_consD, TL.tl_append, List.append_assoc] <;> first | kernel_rfl | rfl)
  rcases List.mem_cons.mp m with rfl | m
  · exact wrong_line ha hb hab (L := [.lit "do", .lit "->", .a]) (by decide +kernel) (by simp) (by decide) (by decide +kernel) (by rw [TL.join_eq]; refine TL.ext_tl ?_; simp only [TL.join_eq, List.map_cons, List.map_nil, Tk.dst, joinS_one, joinS_consD, TL.tl_append, List.append_assoc] <;> first | kernel_rfl | rfl)
  rcases List.mem_cons.mp m with rfl | m
  · exact wrong_line ha hb hab (L := [.lit "do", .lit "row", .lit "->", .a]) (by decide +kernel) (by simp) (by decide) (by decide +kernel) (by rw [TL.join_eq]; refine TL.ext_tl ?_; simp only [TL.join_eq, List.map_cons, List.map_nil, Tk.dst, joinS_one, joinS_consD, TL.tl_append, List.append_assoc] <;> first | kernel_rfl | rfl)
  rcases List.mem_cons.mp m with rfl | m
  · exact wrong_line ha hb hab (L := [.lit "do", .lit "", .lit "new", .a]) (by decide +kernel) (by simp) (by decide) (by decide +kernel) (by rw [TL.join_eq]; refine TL.ext_tl ?_; simp only [TL.join_eq, List.map_cons, List.map_nil, Tk.dst, joinS_one, joinS_consD, TL.tl_append, List.append_assoc] <;> first | kernel_rfl | rfl)
  rw [List.mem_singleton.mp m]
  exact wrong_line ha hb hab (L := [.lit "do", .lit "new", .a, .lit ""]) (by decide +kernel) (by simp) (by decide) (by decide +kernel) (by rw [TL.join_eq]; refine TL.ext_tl ?_; simp only [TL.join_eq, List.map_cons, List.map_nil, Tk.dst, joinS_one, joinS_consD, TL.tl_append, List.append_assoc] <;> first | kernel_rfl | rfl)
theorem w2_12 : ∀ z ∈ ([((("do join if other row " : String) : Str) ++ a), (((("do join if other other " : String) : Str) ++ a) ++ ((" < 1" : String) : Str))] : List Str), ∀ H : Hp, LnE H (.str z) none := by
  intro z m H
  rcases List.mem_cons.mp m with rfl | m
  · exact wrong_line ha hb hab (L := [.lit "do", .lit "join", .lit "if", .lit "other", .lit "row", .a]) (by decide +kernel) (by simp) (by decide) (by decide +kernel) (by rw [TL.join_eq]; refine TL.ext_tl ?_; simp only [TL.join_eq, List.map_cons, List.map_nil, Tk.dst, joinS_one, joinS_consD, TL.tl_append, List.append_assoc] <;> first | kernel_rfl | rfl)
  rw [List.mem_singleton.mp m]
  exact wrong_line ha hb hab (L := [.lit "do", .lit "join", .lit "if", .lit "other", .lit "other", .a, .lit "<", .lit "1"]) (by decide +kernel) (by simp) (by decide) (by decide +kernel) (by rw [TL.join_eq]; refine TL.ext_tl ?_; simp only [TL.join_eq, List.map_cons, List.map_nil, Tk.dst, joinS_one, joinS_consD, TL.tl_append, List.append_assoc] <;> first | kernel_rfl | rfl)
theorem w2_13 : ∀ z ∈ ([((("do one gone -> " : String) : Str) ++ a), ((((((((("do give " : String) : Str) ++ a) ++ ((" -> " : String) : Str)) ++ a) ++ ((" then take " : String) : Str)) ++ a) ++ ((" -> " : String) : Str)) ++ b)] : List Str), ∀ H : Hp, LnE H (.str z) none := by
  intro z m H
  rcases List.mem_cons.mp m with rfl | m
  · exact wrong_line ha hb hab (L := [.lit "do", .lit "one", .lit "gone", .lit "->", .a]) (by decide +kernel) (by simp) (by decide) (by decide +kernel) (by rw [TL.join_eq]; refine TL.ext_tl ?_; simp only [TL.join_eq, List.map_cons, List.map_nil, Tk.dst, joinS_one, joinS_consD, TL.tl_append, List.append_assoc] <;> first | kernel_rfl | rfl)
  rw [List.mem_singleton.mp m]
  exact wrong_line ha hb hab (L := [.lit "do", .lit "give", .a, .lit "->", .a, .lit "then", .lit "take", .a, .lit "->", .b]) (by decide +kernel) (by simp) (by decide) (by decide +kernel) (by rw [TL.join_eq]; refine TL.ext_tl ?_; simp only [TL.join_eq, List.map_cons, List.map_nil, Tk.dst, joinS_one, joinS_consD, TL.tl_append, List.append_assoc] <;> first | kernel_rfl | rfl)
end
end Dr

set_option Elab.async false
set_option linter.all false
set_option maxRecDepth 100000
set_option maxHeartbeats 8000000
set_option pp.maxSteps 400
/-! Doors: the law's wrong lines. -/
namespace Dr
open PySem L2 Cs
theorem len_app {x y : Str} {m n : Nat} (h1 : x.length ≤ m) (h2 : y.length ≤ n) : (x ++ y).length ≤ m + n := by rw [strLen_append]; omega
theorem sum_ok {x y : Str} {m n : Nat} (h1 : x.length ≤ m) (h2 : y.length ≤ n) (h : m + n ≤ sizeLine := by decide) : x.length + y.length ≤ sizeLine := Nat.le_trans (Nat.add_le_add h1 h2) h
theorem five_len {sep z : Str} {m n : Nat} (h : z.length ≤ m) (hs : sep.length ≤ n) (hm : 5 * m + 5 * n ≤ 200) : (Txt.join sep [z, z, z, z, z]).length ≤ 200 := by
  rw [TL.join_eq]
  have q := joinS_lenD sep [z, z, z, z, z]
  simp only [List.map_cons, List.map_nil, List.sum_cons, List.sum_nil, List.length_cons, List.length_nil] at q
  omega
theorem five_sum {sep z : Str} {m n : Nat} (h : z.length ≤ m) (hs : sep.length ≤ n) (hm : 5 * m + 5 * n ≤ 200) : (([z, z, z, z, z] : List Str).map (·.length)).sum + ([z, z, z, z, z] : List Str).length * sep.length ≤ 16777216 := by
  simp only [List.map_cons, List.map_nil, List.sum_cons, List.sum_nil, List.length_cons, List.length_nil]
  omega
theorem mem_both {W V : List Str} {P : Str → Prop} (h1 : ∀ z ∈ W, P z) (h2 : ∀ z ∈ V, P z) : ∀ z ∈ W ++ V, P z := fun z m => (List.mem_append.mp m).elim (h1 z) (h2 z)
def spFaults (n : Nat) : Sp := fun vs H Q _ => ∃ a b : Str, vs = [.str a, .str b] ∧ kindB a = true ∧ kindB b = true ∧ a ≠ b ∧ ∀ (q : Addr) (H' : Hp) (W : List Str), H q = none → Same H H' → H' q = some (.lst (W.map V.str)) → (∀ z ∈ W, ∀ H : Hp, LnE H (.str z) none) → W.length = n → Q (.ref q) H'
section
variable {P : Program} {w : World} {K : PySem.W.Frag} {mg : Str → Option Value} {base : Heap}
theorem ok_faults1 {f : Addr} {fd : FuncData} (F : Fun K "_law_first_faults" "_law_first_faults" s_l_first_faults f fd) : FnOk P w K mg base CX0 1 f fd ["_law_a", "_law_b"] (spFaults 34) := by
  refine F.ok sc_l_first_faults (fun vs H Q E h => ?_) (fun cdv A outer s H vs Q E hr h => ?_)
  · obtain ⟨_, _, rfl, _⟩ := h
    rfl
  · obtain ⟨a, b, rfl, ha, hb, hab, k⟩ := h
    refine ⟨_, (pss_cons (ps_set (i := 2) sc_l_first_faults.nd rfl (Or.inl rfl) (pe_lst (pa_cons pe_str (pa_cons pe_str (pa_cons pe_str (pa_cons pe_str (pa_cons pe_str (pa_cons pe_str (pa_cons pe_str (pa_cons pe_str (pa_cons pe_str (pa_cons (pe_op op_add_str pe_str (pv 0)) pa_nil))))))))))))
      (pss_cons (ps_set (i := 2) sc_l_first_faults.nd rfl (Or.inl rfl) (pe_op op_cat (pv 2) (pe_lst (pa_cons (pe_op op_add_str (pe_op op_add_str pe_str (pv 0)) pe_str) (pa_cons (pe_op op_add_str (pe_op op_add_str pe_str (pv 0)) pe_str) (pa_cons (pe_op op_add_str (pe_op op_add_str pe_str (pv 0)) pe_str) (pa_cons (pe_op op_add_str (pe_op op_add_str (pe_op op_add_str (pe_op op_add_str pe_str (pv 0)) pe_str) (pv 0)) pe_str) pa_nil)))))))
      (pss_cons (ps_set (i := 2) sc_l_first_faults.nd rfl (Or.inl rfl) (pe_op op_cat (pv 2) (pe_lst (pa_cons (pe_op op_add_str (pe_op op_add_str pe_str (pv 0)) pe_str) (pa_cons (pe_op op_add_str (pe_op op_add_str pe_str (pv 0)) pe_str) (pa_cons (pe_op op_add_str (pe_op op_add_str (pe_op op_add_str pe_str (pv 0)) pe_str) (pv 0)) (pa_cons (pe_op op_add_str pe_str (pv 0)) pa_nil)))))))
      (pss_cons (ps_set (i := 2) sc_l_first_faults.nd rfl (Or.inl rfl) (pe_op op_cat (pv 2) (pe_lst (pa_cons (pe_op op_add_str (pe_op op_add_str pe_str (pv 0)) pe_str) (pa_cons (pe_op op_add_str (pe_op op_add_str (pe_op op_add_str (pe_op op_add_str pe_str (pv 0)) pe_str) (pv 1)) pe_str) pa_nil)))))
      (pss_cons (ps_set (i := 2) sc_l_first_faults.nd rfl (Or.inl rfl) (pe_op op_cat (pv 2) (pe_lst (pa_cons (pe_op op_add_str (pe_op op_add_str (pe_op op_add_str (pe_op op_add_str pe_str (pv 0)) pe_str) (pv 1)) pe_str) (pa_cons (pe_op op_add_str (pe_op op_add_str pe_str (pv 0)) pe_str) (pa_cons (pe_op op_add_str (pe_op op_add_str pe_str (pv 0)) pe_str) (pa_cons (pe_op op_add_str pe_str (pv 0)) pa_nil)))))))
      (pss_cons (ps_set (i := 2) sc_l_first_faults.nd rfl (Or.inl rfl) (pe_op op_cat (pv 2) (pe_lst (pa_cons pe_str (pa_cons (pe_op op_add_str (pe_op op_add_str pe_str (pv 0)) pe_str) (pa_cons (pe_op op_add_str pe_str (pe_join pe_str (pe_op op_rep (pe_lst (pa_cons (pe_op op_add_str (pv 0) pe_str) pa_nil)) pe_int))) pa_nil))))))
      (pss_cons (ps_set (i := 2) sc_l_first_faults.nd rfl (Or.inl rfl) (pe_op op_cat (pv 2) (pe_lst (pa_cons (pe_op op_add_str (pe_op op_add_str pe_str (pv 0)) pe_str) (pa_cons (pe_op op_add_str (pe_op op_add_str (pe_op op_add_str (pe_op op_add_str pe_str (pv 0)) pe_str) (pv 1)) pe_str) pa_nil)))))
      (pss_cons (ps_set (i := 2) sc_l_first_faults.nd rfl (Or.inl rfl) (pe_op op_cat (pv 2) (pe_lst (pa_cons (pe_op op_add_str (pe_op op_add_str (pe_op op_add_str pe_str (pv 0)) pe_str) (pv 1)) (pa_cons (pe_op op_add_str (pe_op op_add_str pe_str (pe_upper (pv 0))) pe_str) (pa_cons (pe_op op_add_str (pe_op op_add_str pe_str (pv 0)) pe_str) pa_nil))))))
      (pss_one (ps_ret (pe_op op_cat (pv 2) (pe_lst (pa_cons (pe_op op_add_str (pe_op op_add_str pe_str (pv 0)) pe_str) (pa_cons (pe_op op_add_str (pe_op op_add_str pe_str (pv 0)) pe_str) pa_nil)))))))))))))), ?_⟩
    have la := kind_len ha
    have lb := kind_len hb
    have lup : (Txt.upper a).length ≤ 8 := by rw [TL.len_tl, tl_u ha, List.length_map, ← TL.len_tl]; exact la
    have sS := Same.refl H
    refine ⟨_, rfl, _, _, rfl, rfl, sum_ok (show (("look " : String) : Str).length ≤ 5 by decide +kernel) la, by show 10 ≤ sizeLine; decide, fun D0 hD0 => ?_⟩
    rw [show ([V.str (("" : String) : Str), V.str (("hold " : String) : Str), V.str ((" hold" : String) : Str), V.str (("hold hold" : String) : Str), V.str (("Hold" : String) : Str), V.str (("look" : String) : Str), V.str (("look " : String) : Str), V.str (("look row" : String) : Str), V.str (("look row gone" : String) : Str), V.str ((("look " : String) : Str) ++ a)] : List V) = ([(("" : String) : Str), (("hold " : String) : Str), ((" hold" : String) : Str), (("hold hold" : String) : Str), (("Hold" : String) : Str), (("look" : String) : Str), (("look " : String) : Str), (("look row" : String) : Str), (("look row gone" : String) : Str), ((("look " : String) : Str) ++ a)] : List Str).map V.str from rfl]
    have nD := Same.noneN sS hD0
    have sS := sS.trans (Same.new (o := .lst (([(("" : String) : Str), (("hold " : String) : Str), ((" hold" : String) : Str), (("hold hold" : String) : Str), (("Hold" : String) : Str), (("look" : String) : Str), (("look " : String) : Str), (("look row" : String) : Str), (("look row gone" : String) : Str), ((("look " : String) : Str) ++ a)] : List Str).map V.str)) hD0)
    have hD := upd_same (H := H) (a := D0) (o := .lst (([(("" : String) : Str), (("hold " : String) : Str), ((" hold" : String) : Str), (("hold hold" : String) : Str), (("Hold" : String) : Str), (("look" : String) : Str), (("look " : String) : Str), (("look row" : String) : Str), (("look row gone" : String) : Str), ((("look " : String) : Str) ++ a)] : List Str).map V.str))
    have hW := w1_0 ha hb hab
    have nW : ([(("" : String) : Str), (("hold " : String) : Str), ((" hold" : String) : Str), (("hold hold" : String) : Str), (("Hold" : String) : Str), (("look" : String) : Str), (("look " : String) : Str), (("look row" : String) : Str), (("look row gone" : String) : Str), ((("look " : String) : Str) ++ a)] : List Str).length = 10 := rfl
    generalize upd H D0 (.lst (([(("" : String) : Str), (("hold " : String) : Str), ((" hold" : String) : Str), (("hold hold" : String) : Str), (("Hold" : String) : Str), (("look" : String) : Str), (("look " : String) : Str), (("look row" : String) : Str), (("look row gone" : String) : Str), ((("look " : String) : Str) ++ a)] : List Str).map V.str)) = H1_1 at sS hD ⊢
    generalize ([(("" : String) : Str), (("hold " : String) : Str), ((" hold" : String) : Str), (("hold hold" : String) : Str), (("Hold" : String) : Str), (("look" : String) : Str), (("look " : String) : Str), (("look row" : String) : Str), (("look row gone" : String) : Str), ((("look " : String) : Str) ++ a)] : List Str) = W at hW nW hD ⊢
    refine ⟨_, rfl, _, rfl, _, _, rfl, rfl, sum_ok (show (("look " : String) : Str).length ≤ 5 by decide +kernel) la, _, _, rfl, rfl, sum_ok (len_app (show (("look " : String) : Str).length ≤ 5 by decide +kernel) la) (show ((" <" : String) : Str).length ≤ 2 by decide +kernel), _, rfl, _, _, rfl, rfl, sum_ok (show (("look " : String) : Str).length ≤ 5 by decide +kernel) la, _, _, rfl, rfl, sum_ok (len_app (show (("look " : String) : Str).length ≤ 5 by decide +kernel) la) (show ((" < 10" : String) : Str).length ≤ 5 by decide +kernel), _, rfl, _, _, rfl, rfl, sum_ok (show (("look " : String) : Str).length ≤ 5 by decide +kernel) la, _, _, rfl, rfl, sum_ok (len_app (show (("look " : String) : Str).length ≤ 5 by decide +kernel) la) (show ((" <> 1" : String) : Str).length ≤ 5 by decide +kernel), _, rfl, _, _, rfl, rfl, sum_ok (show (("look " : String) : Str).length ≤ 5 by decide +kernel) la, _, _, rfl, rfl, sum_ok (len_app (show (("look " : String) : Str).length ≤ 5 by decide +kernel) la) (show ((" + " : String) : Str).length ≤ 3 by decide +kernel), _, rfl, _, _, rfl, rfl, sum_ok (len_app (len_app (show (("look " : String) : Str).length ≤ 5 by decide +kernel) la) (show ((" + " : String) : Str).length ≤ 3 by decide +kernel)) la, _, _, rfl, rfl, sum_ok (len_app (len_app (len_app (show (("look " : String) : Str).length ≤ 5 by decide +kernel) la) (show ((" + " : String) : Str).length ≤ 3 by decide +kernel)) la) (show ((" < 1" : String) : Str).length ≤ 4 by decide +kernel), by show 4 ≤ sizeLine; decide, fun l1 hl1 => ?_⟩
    have sS := sS.trans (Same.new (o := .lst [V.str (((("look " : String) : Str) ++ a) ++ ((" <" : String) : Str)), V.str (((("look " : String) : Str) ++ a) ++ ((" < 10" : String) : Str)), V.str (((("look " : String) : Str) ++ a) ++ ((" <> 1" : String) : Str)), V.str (((((("look " : String) : Str) ++ a) ++ ((" + " : String) : Str)) ++ a) ++ ((" < 1" : String) : Str))]) hl1)
    have hD := Same.new (o := .lst [V.str (((("look " : String) : Str) ++ a) ++ ((" <" : String) : Str)), V.str (((("look " : String) : Str) ++ a) ++ ((" < 10" : String) : Str)), V.str (((("look " : String) : Str) ++ a) ++ ((" <> 1" : String) : Str)), V.str (((((("look " : String) : Str) ++ a) ++ ((" + " : String) : Str)) ++ a) ++ ((" < 1" : String) : Str))]) hl1 _ _ hD
    have el := upd_same (H := H1_1) (a := l1) (o := .lst [V.str (((("look " : String) : Str) ++ a) ++ ((" <" : String) : Str)), V.str (((("look " : String) : Str) ++ a) ++ ((" < 10" : String) : Str)), V.str (((("look " : String) : Str) ++ a) ++ ((" <> 1" : String) : Str)), V.str (((((("look " : String) : Str) ++ a) ++ ((" + " : String) : Str)) ++ a) ++ ((" < 1" : String) : Str))])
    generalize upd H1_1 l1 (.lst [V.str (((("look " : String) : Str) ++ a) ++ ((" <" : String) : Str)), V.str (((("look " : String) : Str) ++ a) ++ ((" < 10" : String) : Str)), V.str (((("look " : String) : Str) ++ a) ++ ((" <> 1" : String) : Str)), V.str (((((("look " : String) : Str) ++ a) ++ ((" + " : String) : Str)) ++ a) ++ ((" < 1" : String) : Str))]) = H1_2 at sS hD el ⊢
    refine ⟨D0, l1, _, _, rfl, rfl, hD, el, by rw [List.length_map, nW]; show 10 + 4 ≤ sizeLine; decide, fun D1 hD1 => ?_⟩
    rw [show W.map V.str ++ [V.str (((("look " : String) : Str) ++ a) ++ ((" <" : String) : Str)), V.str (((("look " : String) : Str) ++ a) ++ ((" < 10" : String) : Str)), V.str (((("look " : String) : Str) ++ a) ++ ((" <> 1" : String) : Str)), V.str (((((("look " : String) : Str) ++ a) ++ ((" + " : String) : Str)) ++ a) ++ ((" < 1" : String) : Str))] = (W ++ ([(((("look " : String) : Str) ++ a) ++ ((" <" : String) : Str)), (((("look " : String) : Str) ++ a) ++ ((" < 10" : String) : Str)), (((("look " : String) : Str) ++ a) ++ ((" <> 1" : String) : Str)), (((((("look " : String) : Str) ++ a) ++ ((" + " : String) : Str)) ++ a) ++ ((" < 1" : String) : Str))] : List Str)).map V.str by rw [List.map_append]; rfl]
    have nD := Same.noneN sS hD1
    have sS := sS.trans (Same.new (o := .lst ((W ++ ([(((("look " : String) : Str) ++ a) ++ ((" <" : String) : Str)), (((("look " : String) : Str) ++ a) ++ ((" < 10" : String) : Str)), (((("look " : String) : Str) ++ a) ++ ((" <> 1" : String) : Str)), (((((("look " : String) : Str) ++ a) ++ ((" + " : String) : Str)) ++ a) ++ ((" < 1" : String) : Str))] : List Str)).map V.str)) hD1)
    have hD := upd_same (H := H1_2) (a := D1) (o := .lst ((W ++ ([(((("look " : String) : Str) ++ a) ++ ((" <" : String) : Str)), (((("look " : String) : Str) ++ a) ++ ((" < 10" : String) : Str)), (((("look " : String) : Str) ++ a) ++ ((" <> 1" : String) : Str)), (((((("look " : String) : Str) ++ a) ++ ((" + " : String) : Str)) ++ a) ++ ((" < 1" : String) : Str))] : List Str)).map V.str))
    have hW := mem_both hW (w1_1 ha hb hab)
    have nW : (W ++ ([(((("look " : String) : Str) ++ a) ++ ((" <" : String) : Str)), (((("look " : String) : Str) ++ a) ++ ((" < 10" : String) : Str)), (((("look " : String) : Str) ++ a) ++ ((" <> 1" : String) : Str)), (((((("look " : String) : Str) ++ a) ++ ((" + " : String) : Str)) ++ a) ++ ((" < 1" : String) : Str))] : List Str)).length = 14 := by rw [List.length_append, nW]; rfl
    generalize upd H1_2 D1 (.lst ((W ++ ([(((("look " : String) : Str) ++ a) ++ ((" <" : String) : Str)), (((("look " : String) : Str) ++ a) ++ ((" < 10" : String) : Str)), (((("look " : String) : Str) ++ a) ++ ((" <> 1" : String) : Str)), (((((("look " : String) : Str) ++ a) ++ ((" + " : String) : Str)) ++ a) ++ ((" < 1" : String) : Str))] : List Str)).map V.str)) = H1_3 at sS hD ⊢
    generalize W ++ ([(((("look " : String) : Str) ++ a) ++ ((" <" : String) : Str)), (((("look " : String) : Str) ++ a) ++ ((" < 10" : String) : Str)), (((("look " : String) : Str) ++ a) ++ ((" <> 1" : String) : Str)), (((((("look " : String) : Str) ++ a) ++ ((" + " : String) : Str)) ++ a) ++ ((" < 1" : String) : Str))] : List Str) = W at hW nW hD ⊢
    refine ⟨_, rfl, _, rfl, _, _, rfl, rfl, sum_ok (show (("look " : String) : Str).length ≤ 5 by decide +kernel) la, _, _, rfl, rfl, sum_ok (len_app (show (("look " : String) : Str).length ≤ 5 by decide +kernel) la) (show ((" + < 1" : String) : Str).length ≤ 6 by decide +kernel), _, rfl, _, _, rfl, rfl, sum_ok (show (("look other " : String) : Str).length ≤ 11 by decide +kernel) la, _, _, rfl, rfl, sum_ok (len_app (show (("look other " : String) : Str).length ≤ 11 by decide +kernel) la) (show ((" < 1" : String) : Str).length ≤ 4 by decide +kernel), _, rfl, _, _, rfl, rfl, sum_ok (show (("look row " : String) : Str).length ≤ 9 by decide +kernel) la, _, _, rfl, rfl, sum_ok (len_app (show (("look row " : String) : Str).length ≤ 9 by decide +kernel) la) (show ((" or " : String) : Str).length ≤ 4 by decide +kernel), _, rfl, _, _, rfl, rfl, sum_ok (len_app (len_app (show (("look row " : String) : Str).length ≤ 9 by decide +kernel) la) (show ((" or " : String) : Str).length ≤ 4 by decide +kernel)) la, _, rfl, _, _, rfl, rfl, sum_ok (show (("look  row " : String) : Str).length ≤ 10 by decide +kernel) la, by show 4 ≤ sizeLine; decide, fun l2 hl2 => ?_⟩
    have sS := sS.trans (Same.new (o := .lst [V.str (((("look " : String) : Str) ++ a) ++ ((" + < 1" : String) : Str)), V.str (((("look other " : String) : Str) ++ a) ++ ((" < 1" : String) : Str)), V.str ((((("look row " : String) : Str) ++ a) ++ ((" or " : String) : Str)) ++ a), V.str ((("look  row " : String) : Str) ++ a)]) hl2)
    have hD := Same.new (o := .lst [V.str (((("look " : String) : Str) ++ a) ++ ((" + < 1" : String) : Str)), V.str (((("look other " : String) : Str) ++ a) ++ ((" < 1" : String) : Str)), V.str ((((("look row " : String) : Str) ++ a) ++ ((" or " : String) : Str)) ++ a), V.str ((("look  row " : String) : Str) ++ a)]) hl2 _ _ hD
    have el := upd_same (H := H1_3) (a := l2) (o := .lst [V.str (((("look " : String) : Str) ++ a) ++ ((" + < 1" : String) : Str)), V.str (((("look other " : String) : Str) ++ a) ++ ((" < 1" : String) : Str)), V.str ((((("look row " : String) : Str) ++ a) ++ ((" or " : String) : Str)) ++ a), V.str ((("look  row " : String) : Str) ++ a)])
    generalize upd H1_3 l2 (.lst [V.str (((("look " : String) : Str) ++ a) ++ ((" + < 1" : String) : Str)), V.str (((("look other " : String) : Str) ++ a) ++ ((" < 1" : String) : Str)), V.str ((((("look row " : String) : Str) ++ a) ++ ((" or " : String) : Str)) ++ a), V.str ((("look  row " : String) : Str) ++ a)]) = H1_4 at sS hD el ⊢
    refine ⟨D1, l2, _, _, rfl, rfl, hD, el, by rw [List.length_map, nW]; show 14 + 4 ≤ sizeLine; decide, fun D2 hD2 => ?_⟩
    rw [show W.map V.str ++ [V.str (((("look " : String) : Str) ++ a) ++ ((" + < 1" : String) : Str)), V.str (((("look other " : String) : Str) ++ a) ++ ((" < 1" : String) : Str)), V.str ((((("look row " : String) : Str) ++ a) ++ ((" or " : String) : Str)) ++ a), V.str ((("look  row " : String) : Str) ++ a)] = (W ++ ([(((("look " : String) : Str) ++ a) ++ ((" + < 1" : String) : Str)), (((("look other " : String) : Str) ++ a) ++ ((" < 1" : String) : Str)), ((((("look row " : String) : Str) ++ a) ++ ((" or " : String) : Str)) ++ a), ((("look  row " : String) : Str) ++ a)] : List Str)).map V.str by rw [List.map_append]; rfl]
    have nD := Same.noneN sS hD2
    have sS := sS.trans (Same.new (o := .lst ((W ++ ([(((("look " : String) : Str) ++ a) ++ ((" + < 1" : String) : Str)), (((("look other " : String) : Str) ++ a) ++ ((" < 1" : String) : Str)), ((((("look row " : String) : Str) ++ a) ++ ((" or " : String) : Str)) ++ a), ((("look  row " : String) : Str) ++ a)] : List Str)).map V.str)) hD2)
    have hD := upd_same (H := H1_4) (a := D2) (o := .lst ((W ++ ([(((("look " : String) : Str) ++ a) ++ ((" + < 1" : String) : Str)), (((("look other " : String) : Str) ++ a) ++ ((" < 1" : String) : Str)), ((((("look row " : String) : Str) ++ a) ++ ((" or " : String) : Str)) ++ a), ((("look  row " : String) : Str) ++ a)] : List Str)).map V.str))
    have hW := mem_both hW (w1_2 ha hb hab)
    have nW : (W ++ ([(((("look " : String) : Str) ++ a) ++ ((" + < 1" : String) : Str)), (((("look other " : String) : Str) ++ a) ++ ((" < 1" : String) : Str)), ((((("look row " : String) : Str) ++ a) ++ ((" or " : String) : Str)) ++ a), ((("look  row " : String) : Str) ++ a)] : List Str)).length = 18 := by rw [List.length_append, nW]; rfl
    generalize upd H1_4 D2 (.lst ((W ++ ([(((("look " : String) : Str) ++ a) ++ ((" + < 1" : String) : Str)), (((("look other " : String) : Str) ++ a) ++ ((" < 1" : String) : Str)), ((((("look row " : String) : Str) ++ a) ++ ((" or " : String) : Str)) ++ a), ((("look  row " : String) : Str) ++ a)] : List Str)).map V.str)) = H1_5 at sS hD ⊢
    generalize W ++ ([(((("look " : String) : Str) ++ a) ++ ((" + < 1" : String) : Str)), (((("look other " : String) : Str) ++ a) ++ ((" < 1" : String) : Str)), ((((("look row " : String) : Str) ++ a) ++ ((" or " : String) : Str)) ++ a), ((("look  row " : String) : Str) ++ a)] : List Str) = W at hW nW hD ⊢
    refine ⟨_, rfl, _, rfl, _, _, rfl, rfl, sum_ok (show (("look " : String) : Str).length ≤ 5 by decide +kernel) la, _, _, rfl, rfl, sum_ok (len_app (show (("look " : String) : Str).length ≤ 5 by decide +kernel) la) (show ((" = 1 and" : String) : Str).length ≤ 8 by decide +kernel), _, rfl, _, _, rfl, rfl, sum_ok (show (("look " : String) : Str).length ≤ 5 by decide +kernel) la, _, _, rfl, rfl, sum_ok (len_app (show (("look " : String) : Str).length ≤ 5 by decide +kernel) la) (show ((" = 1 or " : String) : Str).length ≤ 8 by decide +kernel), _, rfl, _, _, rfl, rfl, sum_ok (len_app (len_app (show (("look " : String) : Str).length ≤ 5 by decide +kernel) la) (show ((" = 1 or " : String) : Str).length ≤ 8 by decide +kernel)) lb, _, _, rfl, rfl, sum_ok (len_app (len_app (len_app (show (("look " : String) : Str).length ≤ 5 by decide +kernel) la) (show ((" = 1 or " : String) : Str).length ≤ 8 by decide +kernel)) lb) (show ((" = 1" : String) : Str).length ≤ 4 by decide +kernel), by show 2 ≤ sizeLine; decide, fun l3 hl3 => ?_⟩
    have sS := sS.trans (Same.new (o := .lst [V.str (((("look " : String) : Str) ++ a) ++ ((" = 1 and" : String) : Str)), V.str (((((("look " : String) : Str) ++ a) ++ ((" = 1 or " : String) : Str)) ++ b) ++ ((" = 1" : String) : Str))]) hl3)
    have hD := Same.new (o := .lst [V.str (((("look " : String) : Str) ++ a) ++ ((" = 1 and" : String) : Str)), V.str (((((("look " : String) : Str) ++ a) ++ ((" = 1 or " : String) : Str)) ++ b) ++ ((" = 1" : String) : Str))]) hl3 _ _ hD
    have el := upd_same (H := H1_5) (a := l3) (o := .lst [V.str (((("look " : String) : Str) ++ a) ++ ((" = 1 and" : String) : Str)), V.str (((((("look " : String) : Str) ++ a) ++ ((" = 1 or " : String) : Str)) ++ b) ++ ((" = 1" : String) : Str))])
    generalize upd H1_5 l3 (.lst [V.str (((("look " : String) : Str) ++ a) ++ ((" = 1 and" : String) : Str)), V.str (((((("look " : String) : Str) ++ a) ++ ((" = 1 or " : String) : Str)) ++ b) ++ ((" = 1" : String) : Str))]) = H1_6 at sS hD el ⊢
    refine ⟨D2, l3, _, _, rfl, rfl, hD, el, by rw [List.length_map, nW]; show 18 + 2 ≤ sizeLine; decide, fun D3 hD3 => ?_⟩
    rw [show W.map V.str ++ [V.str (((("look " : String) : Str) ++ a) ++ ((" = 1 and" : String) : Str)), V.str (((((("look " : String) : Str) ++ a) ++ ((" = 1 or " : String) : Str)) ++ b) ++ ((" = 1" : String) : Str))] = (W ++ ([(((("look " : String) : Str) ++ a) ++ ((" = 1 and" : String) : Str)), (((((("look " : String) : Str) ++ a) ++ ((" = 1 or " : String) : Str)) ++ b) ++ ((" = 1" : String) : Str))] : List Str)).map V.str by rw [List.map_append]; rfl]
    have nD := Same.noneN sS hD3
    have sS := sS.trans (Same.new (o := .lst ((W ++ ([(((("look " : String) : Str) ++ a) ++ ((" = 1 and" : String) : Str)), (((((("look " : String) : Str) ++ a) ++ ((" = 1 or " : String) : Str)) ++ b) ++ ((" = 1" : String) : Str))] : List Str)).map V.str)) hD3)
    have hD := upd_same (H := H1_6) (a := D3) (o := .lst ((W ++ ([(((("look " : String) : Str) ++ a) ++ ((" = 1 and" : String) : Str)), (((((("look " : String) : Str) ++ a) ++ ((" = 1 or " : String) : Str)) ++ b) ++ ((" = 1" : String) : Str))] : List Str)).map V.str))
    have hW := mem_both hW (w1_3 ha hb hab)
    have nW : (W ++ ([(((("look " : String) : Str) ++ a) ++ ((" = 1 and" : String) : Str)), (((((("look " : String) : Str) ++ a) ++ ((" = 1 or " : String) : Str)) ++ b) ++ ((" = 1" : String) : Str))] : List Str)).length = 20 := by rw [List.length_append, nW]; rfl
    generalize upd H1_6 D3 (.lst ((W ++ ([(((("look " : String) : Str) ++ a) ++ ((" = 1 and" : String) : Str)), (((((("look " : String) : Str) ++ a) ++ ((" = 1 or " : String) : Str)) ++ b) ++ ((" = 1" : String) : Str))] : List Str)).map V.str)) = H1_7 at sS hD ⊢
    generalize W ++ ([(((("look " : String) : Str) ++ a) ++ ((" = 1 and" : String) : Str)), (((((("look " : String) : Str) ++ a) ++ ((" = 1 or " : String) : Str)) ++ b) ++ ((" = 1" : String) : Str))] : List Str) = W at hW nW hD ⊢
    refine ⟨_, rfl, _, rfl, _, _, rfl, rfl, sum_ok (show (("look " : String) : Str).length ≤ 5 by decide +kernel) la, _, _, rfl, rfl, sum_ok (len_app (show (("look " : String) : Str).length ≤ 5 by decide +kernel) la) (show ((" = 1 and  " : String) : Str).length ≤ 10 by decide +kernel), _, rfl, _, _, rfl, rfl, sum_ok (len_app (len_app (show (("look " : String) : Str).length ≤ 5 by decide +kernel) la) (show ((" = 1 and  " : String) : Str).length ≤ 10 by decide +kernel)) lb, _, _, rfl, rfl, sum_ok (len_app (len_app (len_app (show (("look " : String) : Str).length ≤ 5 by decide +kernel) la) (show ((" = 1 and  " : String) : Str).length ≤ 10 by decide +kernel)) lb) (show ((" = 1" : String) : Str).length ≤ 4 by decide +kernel), _, rfl, _, _, rfl, rfl, sum_ok (show (("look " : String) : Str).length ≤ 5 by decide +kernel) la, _, _, rfl, rfl, sum_ok (len_app (show (("look " : String) : Str).length ≤ 5 by decide +kernel) la) (show ((" = -1" : String) : Str).length ≤ 5 by decide +kernel), _, rfl, _, _, rfl, rfl, sum_ok (show (("look " : String) : Str).length ≤ 5 by decide +kernel) la, _, _, rfl, rfl, sum_ok (len_app (show (("look " : String) : Str).length ≤ 5 by decide +kernel) la) (show (("= 1" : String) : Str).length ≤ 3 by decide +kernel), _, rfl, _, _, rfl, rfl, sum_ok (show (("look 1 = " : String) : Str).length ≤ 9 by decide +kernel) la, by show 4 ≤ sizeLine; decide, fun l4 hl4 => ?_⟩
    have sS := sS.trans (Same.new (o := .lst [V.str (((((("look " : String) : Str) ++ a) ++ ((" = 1 and  " : String) : Str)) ++ b) ++ ((" = 1" : String) : Str)), V.str (((("look " : String) : Str) ++ a) ++ ((" = -1" : String) : Str)), V.str (((("look " : String) : Str) ++ a) ++ (("= 1" : String) : Str)), V.str ((("look 1 = " : String) : Str) ++ a)]) hl4)
    have hD := Same.new (o := .lst [V.str (((((("look " : String) : Str) ++ a) ++ ((" = 1 and  " : String) : Str)) ++ b) ++ ((" = 1" : String) : Str)), V.str (((("look " : String) : Str) ++ a) ++ ((" = -1" : String) : Str)), V.str (((("look " : String) : Str) ++ a) ++ (("= 1" : String) : Str)), V.str ((("look 1 = " : String) : Str) ++ a)]) hl4 _ _ hD
    have el := upd_same (H := H1_7) (a := l4) (o := .lst [V.str (((((("look " : String) : Str) ++ a) ++ ((" = 1 and  " : String) : Str)) ++ b) ++ ((" = 1" : String) : Str)), V.str (((("look " : String) : Str) ++ a) ++ ((" = -1" : String) : Str)), V.str (((("look " : String) : Str) ++ a) ++ (("= 1" : String) : Str)), V.str ((("look 1 = " : String) : Str) ++ a)])
    generalize upd H1_7 l4 (.lst [V.str (((((("look " : String) : Str) ++ a) ++ ((" = 1 and  " : String) : Str)) ++ b) ++ ((" = 1" : String) : Str)), V.str (((("look " : String) : Str) ++ a) ++ ((" = -1" : String) : Str)), V.str (((("look " : String) : Str) ++ a) ++ (("= 1" : String) : Str)), V.str ((("look 1 = " : String) : Str) ++ a)]) = H1_8 at sS hD el ⊢
    refine ⟨D3, l4, _, _, rfl, rfl, hD, el, by rw [List.length_map, nW]; show 20 + 4 ≤ sizeLine; decide, fun D4 hD4 => ?_⟩
    rw [show W.map V.str ++ [V.str (((((("look " : String) : Str) ++ a) ++ ((" = 1 and  " : String) : Str)) ++ b) ++ ((" = 1" : String) : Str)), V.str (((("look " : String) : Str) ++ a) ++ ((" = -1" : String) : Str)), V.str (((("look " : String) : Str) ++ a) ++ (("= 1" : String) : Str)), V.str ((("look 1 = " : String) : Str) ++ a)] = (W ++ ([(((((("look " : String) : Str) ++ a) ++ ((" = 1 and  " : String) : Str)) ++ b) ++ ((" = 1" : String) : Str)), (((("look " : String) : Str) ++ a) ++ ((" = -1" : String) : Str)), (((("look " : String) : Str) ++ a) ++ (("= 1" : String) : Str)), ((("look 1 = " : String) : Str) ++ a)] : List Str)).map V.str by rw [List.map_append]; rfl]
    have nD := Same.noneN sS hD4
    have sS := sS.trans (Same.new (o := .lst ((W ++ ([(((((("look " : String) : Str) ++ a) ++ ((" = 1 and  " : String) : Str)) ++ b) ++ ((" = 1" : String) : Str)), (((("look " : String) : Str) ++ a) ++ ((" = -1" : String) : Str)), (((("look " : String) : Str) ++ a) ++ (("= 1" : String) : Str)), ((("look 1 = " : String) : Str) ++ a)] : List Str)).map V.str)) hD4)
    have hD := upd_same (H := H1_8) (a := D4) (o := .lst ((W ++ ([(((((("look " : String) : Str) ++ a) ++ ((" = 1 and  " : String) : Str)) ++ b) ++ ((" = 1" : String) : Str)), (((("look " : String) : Str) ++ a) ++ ((" = -1" : String) : Str)), (((("look " : String) : Str) ++ a) ++ (("= 1" : String) : Str)), ((("look 1 = " : String) : Str) ++ a)] : List Str)).map V.str))
    have hW := mem_both hW (w1_4 ha hb hab)
    have nW : (W ++ ([(((((("look " : String) : Str) ++ a) ++ ((" = 1 and  " : String) : Str)) ++ b) ++ ((" = 1" : String) : Str)), (((("look " : String) : Str) ++ a) ++ ((" = -1" : String) : Str)), (((("look " : String) : Str) ++ a) ++ (("= 1" : String) : Str)), ((("look 1 = " : String) : Str) ++ a)] : List Str)).length = 24 := by rw [List.length_append, nW]; rfl
    generalize upd H1_8 D4 (.lst ((W ++ ([(((((("look " : String) : Str) ++ a) ++ ((" = 1 and  " : String) : Str)) ++ b) ++ ((" = 1" : String) : Str)), (((("look " : String) : Str) ++ a) ++ ((" = -1" : String) : Str)), (((("look " : String) : Str) ++ a) ++ (("= 1" : String) : Str)), ((("look 1 = " : String) : Str) ++ a)] : List Str)).map V.str)) = H1_9 at sS hD ⊢
    generalize W ++ ([(((((("look " : String) : Str) ++ a) ++ ((" = 1 and  " : String) : Str)) ++ b) ++ ((" = 1" : String) : Str)), (((("look " : String) : Str) ++ a) ++ ((" = -1" : String) : Str)), (((("look " : String) : Str) ++ a) ++ (("= 1" : String) : Str)), ((("look 1 = " : String) : Str) ++ a)] : List Str) = W at hW nW hD ⊢
    refine ⟨_, rfl, _, rfl, _, _, rfl, rfl, sum_ok (show (("look row " : String) : Str).length ≤ 9 by decide +kernel) la, _, _, rfl, rfl, sum_ok (len_app (show (("look row " : String) : Str).length ≤ 9 by decide +kernel) la) (show ((" and row" : String) : Str).length ≤ 8 by decide +kernel), ⟨_, rfl⟩, _, rfl, _, _, rfl, rfl, sum_ok la (show ((" = 1" : String) : Str).length ≤ 4 by decide +kernel), by show 1 ≤ sizeLine; decide, fun l5 hl5 => ?_⟩
    have sS := sS.trans (Same.new (o := .lst [.str (a ++ ((" = 1" : String) : Str))]) hl5)
    have hD := Same.new (o := .lst [.str (a ++ ((" = 1" : String) : Str))]) hl5 _ _ hD
    have el := upd_same (H := H1_9) (a := l5) (o := .lst [.str (a ++ ((" = 1" : String) : Str))])
    generalize upd H1_9 l5 (.lst [.str (a ++ ((" = 1" : String) : Str))]) = H1_10 at sS el hD ⊢
    refine ⟨l5, _, _, rfl, rfl, el, by decide, by decide, by show 1 * 5 ≤ sizeLine; decide, fun m5 hm5 => ?_⟩
    rw [show (List.replicate (Int.toNat 5) [V.str (a ++ ((" = 1" : String) : Str))]).flatten = ([.str (a ++ ((" = 1" : String) : Str)), .str (a ++ ((" = 1" : String) : Str)), .str (a ++ ((" = 1" : String) : Str)), .str (a ++ ((" = 1" : String) : Str)), .str (a ++ ((" = 1" : String) : Str))] : List V) from rfl]
    have sS := sS.trans (Same.new (o := .lst [.str (a ++ ((" = 1" : String) : Str)), .str (a ++ ((" = 1" : String) : Str)), .str (a ++ ((" = 1" : String) : Str)), .str (a ++ ((" = 1" : String) : Str)), .str (a ++ ((" = 1" : String) : Str))]) hm5)
    have hD := Same.new (o := .lst [.str (a ++ ((" = 1" : String) : Str)), .str (a ++ ((" = 1" : String) : Str)), .str (a ++ ((" = 1" : String) : Str)), .str (a ++ ((" = 1" : String) : Str)), .str (a ++ ((" = 1" : String) : Str))]) hm5 _ _ hD
    have el := upd_same (H := H1_10) (a := m5) (o := .lst [.str (a ++ ((" = 1" : String) : Str)), .str (a ++ ((" = 1" : String) : Str)), .str (a ++ ((" = 1" : String) : Str)), .str (a ++ ((" = 1" : String) : Str)), .str (a ++ ((" = 1" : String) : Str))])
    generalize upd H1_10 m5 (.lst [.str (a ++ ((" = 1" : String) : Str)), .str (a ++ ((" = 1" : String) : Str)), .str (a ++ ((" = 1" : String) : Str)), .str (a ++ ((" = 1" : String) : Str)), .str (a ++ ((" = 1" : String) : Str))]) = H1_11 at sS el hD ⊢
    have lj := five_len (sep := ((" and " : String) : Str)) (z := (a ++ ((" = 1" : String) : Str))) (n := 5) (len_app la (show ((" = 1" : String) : Str).length ≤ 4 by decide +kernel)) (by decide +kernel) (by decide)
    have lj2 := five_sum (sep := ((" and " : String) : Str)) (z := (a ++ ((" = 1" : String) : Str))) (n := 5) (len_app la (show ((" = 1" : String) : Str).length ≤ 4 by decide +kernel)) (by decide +kernel) (by decide)
    refine ⟨((" and " : String) : Str), m5, [(a ++ ((" = 1" : String) : Str)), (a ++ ((" = 1" : String) : Str)), (a ++ ((" = 1" : String) : Str)), (a ++ ((" = 1" : String) : Str)), (a ++ ((" = 1" : String) : Str))], rfl, rfl, .inl (SqL.of el), lj2, _, _, rfl, rfl, sum_ok (show (("look " : String) : Str).length ≤ 5 by decide +kernel) lj, by show 3 ≤ sizeLine; decide, fun l6 hl6 => ?_⟩
    have sS := sS.trans (Same.new (o := .lst [V.str (("look gone = 1" : String) : Str), V.str (((("look row " : String) : Str) ++ a) ++ ((" and row" : String) : Str)), V.str ((("look " : String) : Str) ++ (Txt.join ((" and " : String) : Str) [(a ++ ((" = 1" : String) : Str)), (a ++ ((" = 1" : String) : Str)), (a ++ ((" = 1" : String) : Str)), (a ++ ((" = 1" : String) : Str)), (a ++ ((" = 1" : String) : Str))]))]) hl6)
    have hD := Same.new (o := .lst [V.str (("look gone = 1" : String) : Str), V.str (((("look row " : String) : Str) ++ a) ++ ((" and row" : String) : Str)), V.str ((("look " : String) : Str) ++ (Txt.join ((" and " : String) : Str) [(a ++ ((" = 1" : String) : Str)), (a ++ ((" = 1" : String) : Str)), (a ++ ((" = 1" : String) : Str)), (a ++ ((" = 1" : String) : Str)), (a ++ ((" = 1" : String) : Str))]))]) hl6 _ _ hD
    have el := upd_same (H := H1_11) (a := l6) (o := .lst [V.str (("look gone = 1" : String) : Str), V.str (((("look row " : String) : Str) ++ a) ++ ((" and row" : String) : Str)), V.str ((("look " : String) : Str) ++ (Txt.join ((" and " : String) : Str) [(a ++ ((" = 1" : String) : Str)), (a ++ ((" = 1" : String) : Str)), (a ++ ((" = 1" : String) : Str)), (a ++ ((" = 1" : String) : Str)), (a ++ ((" = 1" : String) : Str))]))])
    generalize upd H1_11 l6 (.lst [V.str (("look gone = 1" : String) : Str), V.str (((("look row " : String) : Str) ++ a) ++ ((" and row" : String) : Str)), V.str ((("look " : String) : Str) ++ (Txt.join ((" and " : String) : Str) [(a ++ ((" = 1" : String) : Str)), (a ++ ((" = 1" : String) : Str)), (a ++ ((" = 1" : String) : Str)), (a ++ ((" = 1" : String) : Str)), (a ++ ((" = 1" : String) : Str))]))]) = H1_12 at sS hD el ⊢
    refine ⟨D4, l6, _, _, rfl, rfl, hD, el, by rw [List.length_map, nW]; show 24 + 3 ≤ sizeLine; decide, fun D6 hD6 => ?_⟩
    rw [show W.map V.str ++ [V.str (("look gone = 1" : String) : Str), V.str (((("look row " : String) : Str) ++ a) ++ ((" and row" : String) : Str)), V.str ((("look " : String) : Str) ++ (Txt.join ((" and " : String) : Str) [(a ++ ((" = 1" : String) : Str)), (a ++ ((" = 1" : String) : Str)), (a ++ ((" = 1" : String) : Str)), (a ++ ((" = 1" : String) : Str)), (a ++ ((" = 1" : String) : Str))]))] = (W ++ ([(("look gone = 1" : String) : Str), (((("look row " : String) : Str) ++ a) ++ ((" and row" : String) : Str)), ((("look " : String) : Str) ++ (Txt.join ((" and " : String) : Str) [(a ++ ((" = 1" : String) : Str)), (a ++ ((" = 1" : String) : Str)), (a ++ ((" = 1" : String) : Str)), (a ++ ((" = 1" : String) : Str)), (a ++ ((" = 1" : String) : Str))]))] : List Str)).map V.str by rw [List.map_append]; rfl]
    have nD := Same.noneN sS hD6
    have sS := sS.trans (Same.new (o := .lst ((W ++ ([(("look gone = 1" : String) : Str), (((("look row " : String) : Str) ++ a) ++ ((" and row" : String) : Str)), ((("look " : String) : Str) ++ (Txt.join ((" and " : String) : Str) [(a ++ ((" = 1" : String) : Str)), (a ++ ((" = 1" : String) : Str)), (a ++ ((" = 1" : String) : Str)), (a ++ ((" = 1" : String) : Str)), (a ++ ((" = 1" : String) : Str))]))] : List Str)).map V.str)) hD6)
    have hD := upd_same (H := H1_12) (a := D6) (o := .lst ((W ++ ([(("look gone = 1" : String) : Str), (((("look row " : String) : Str) ++ a) ++ ((" and row" : String) : Str)), ((("look " : String) : Str) ++ (Txt.join ((" and " : String) : Str) [(a ++ ((" = 1" : String) : Str)), (a ++ ((" = 1" : String) : Str)), (a ++ ((" = 1" : String) : Str)), (a ++ ((" = 1" : String) : Str)), (a ++ ((" = 1" : String) : Str))]))] : List Str)).map V.str))
    have hW := mem_both hW (w1_5 ha hb hab)
    have nW : (W ++ ([(("look gone = 1" : String) : Str), (((("look row " : String) : Str) ++ a) ++ ((" and row" : String) : Str)), ((("look " : String) : Str) ++ (Txt.join ((" and " : String) : Str) [(a ++ ((" = 1" : String) : Str)), (a ++ ((" = 1" : String) : Str)), (a ++ ((" = 1" : String) : Str)), (a ++ ((" = 1" : String) : Str)), (a ++ ((" = 1" : String) : Str))]))] : List Str)).length = 27 := by rw [List.length_append, nW]; rfl
    generalize upd H1_12 D6 (.lst ((W ++ ([(("look gone = 1" : String) : Str), (((("look row " : String) : Str) ++ a) ++ ((" and row" : String) : Str)), ((("look " : String) : Str) ++ (Txt.join ((" and " : String) : Str) [(a ++ ((" = 1" : String) : Str)), (a ++ ((" = 1" : String) : Str)), (a ++ ((" = 1" : String) : Str)), (a ++ ((" = 1" : String) : Str)), (a ++ ((" = 1" : String) : Str))]))] : List Str)).map V.str)) = H1_13 at sS hD ⊢
    generalize W ++ ([(("look gone = 1" : String) : Str), (((("look row " : String) : Str) ++ a) ++ ((" and row" : String) : Str)), ((("look " : String) : Str) ++ (Txt.join ((" and " : String) : Str) [(a ++ ((" = 1" : String) : Str)), (a ++ ((" = 1" : String) : Str)), (a ++ ((" = 1" : String) : Str)), (a ++ ((" = 1" : String) : Str)), (a ++ ((" = 1" : String) : Str))]))] : List Str) = W at hW nW hD ⊢
    refine ⟨_, rfl, _, rfl, _, _, rfl, rfl, sum_ok (show (("look row " : String) : Str).length ≤ 9 by decide +kernel) la, _, _, rfl, rfl, sum_ok (len_app (show (("look row " : String) : Str).length ≤ 9 by decide +kernel) la) (show ((" = 1" : String) : Str).length ≤ 4 by decide +kernel), _, rfl, _, _, rfl, rfl, sum_ok (show (("look " : String) : Str).length ≤ 5 by decide +kernel) la, _, _, rfl, rfl, sum_ok (len_app (show (("look " : String) : Str).length ≤ 5 by decide +kernel) la) (show ((" or " : String) : Str).length ≤ 4 by decide +kernel), _, rfl, _, _, rfl, rfl, sum_ok (len_app (len_app (show (("look " : String) : Str).length ≤ 5 by decide +kernel) la) (show ((" or " : String) : Str).length ≤ 4 by decide +kernel)) lb, _, _, rfl, rfl, sum_ok (len_app (len_app (len_app (show (("look " : String) : Str).length ≤ 5 by decide +kernel) la) (show ((" or " : String) : Str).length ≤ 4 by decide +kernel)) lb) (show ((" = 1" : String) : Str).length ≤ 4 by decide +kernel), by show 2 ≤ sizeLine; decide, fun l7 hl7 => ?_⟩
    have sS := sS.trans (Same.new (o := .lst [V.str (((("look row " : String) : Str) ++ a) ++ ((" = 1" : String) : Str)), V.str (((((("look " : String) : Str) ++ a) ++ ((" or " : String) : Str)) ++ b) ++ ((" = 1" : String) : Str))]) hl7)
    have hD := Same.new (o := .lst [V.str (((("look row " : String) : Str) ++ a) ++ ((" = 1" : String) : Str)), V.str (((((("look " : String) : Str) ++ a) ++ ((" or " : String) : Str)) ++ b) ++ ((" = 1" : String) : Str))]) hl7 _ _ hD
    have el := upd_same (H := H1_13) (a := l7) (o := .lst [V.str (((("look row " : String) : Str) ++ a) ++ ((" = 1" : String) : Str)), V.str (((((("look " : String) : Str) ++ a) ++ ((" or " : String) : Str)) ++ b) ++ ((" = 1" : String) : Str))])
    generalize upd H1_13 l7 (.lst [V.str (((("look row " : String) : Str) ++ a) ++ ((" = 1" : String) : Str)), V.str (((((("look " : String) : Str) ++ a) ++ ((" or " : String) : Str)) ++ b) ++ ((" = 1" : String) : Str))]) = H1_14 at sS hD el ⊢
    refine ⟨D6, l7, _, _, rfl, rfl, hD, el, by rw [List.length_map, nW]; show 27 + 2 ≤ sizeLine; decide, fun D7 hD7 => ?_⟩
    rw [show W.map V.str ++ [V.str (((("look row " : String) : Str) ++ a) ++ ((" = 1" : String) : Str)), V.str (((((("look " : String) : Str) ++ a) ++ ((" or " : String) : Str)) ++ b) ++ ((" = 1" : String) : Str))] = (W ++ ([(((("look row " : String) : Str) ++ a) ++ ((" = 1" : String) : Str)), (((((("look " : String) : Str) ++ a) ++ ((" or " : String) : Str)) ++ b) ++ ((" = 1" : String) : Str))] : List Str)).map V.str by rw [List.map_append]; rfl]
    have nD := Same.noneN sS hD7
    have sS := sS.trans (Same.new (o := .lst ((W ++ ([(((("look row " : String) : Str) ++ a) ++ ((" = 1" : String) : Str)), (((((("look " : String) : Str) ++ a) ++ ((" or " : String) : Str)) ++ b) ++ ((" = 1" : String) : Str))] : List Str)).map V.str)) hD7)
    have hD := upd_same (H := H1_14) (a := D7) (o := .lst ((W ++ ([(((("look row " : String) : Str) ++ a) ++ ((" = 1" : String) : Str)), (((((("look " : String) : Str) ++ a) ++ ((" or " : String) : Str)) ++ b) ++ ((" = 1" : String) : Str))] : List Str)).map V.str))
    have hW := mem_both hW (w1_6 ha hb hab)
    have nW : (W ++ ([(((("look row " : String) : Str) ++ a) ++ ((" = 1" : String) : Str)), (((((("look " : String) : Str) ++ a) ++ ((" or " : String) : Str)) ++ b) ++ ((" = 1" : String) : Str))] : List Str)).length = 29 := by rw [List.length_append, nW]; rfl
    generalize upd H1_14 D7 (.lst ((W ++ ([(((("look row " : String) : Str) ++ a) ++ ((" = 1" : String) : Str)), (((((("look " : String) : Str) ++ a) ++ ((" or " : String) : Str)) ++ b) ++ ((" = 1" : String) : Str))] : List Str)).map V.str)) = H1_15 at sS hD ⊢
    generalize W ++ ([(((("look row " : String) : Str) ++ a) ++ ((" = 1" : String) : Str)), (((((("look " : String) : Str) ++ a) ++ ((" or " : String) : Str)) ++ b) ++ ((" = 1" : String) : Str))] : List Str) = W at hW nW hD ⊢
    refine ⟨_, rfl, _, rfl, _, _, rfl, rfl, sum_ok (show (("look row " : String) : Str).length ≤ 9 by decide +kernel) la, _, _, rfl, rfl, sum_ok (len_app (show (("look row " : String) : Str).length ≤ 9 by decide +kernel) la) (show ((" + " : String) : Str).length ≤ 3 by decide +kernel), _, rfl, _, _, rfl, rfl, sum_ok (len_app (len_app (show (("look row " : String) : Str).length ≤ 9 by decide +kernel) la) (show ((" + " : String) : Str).length ≤ 3 by decide +kernel)) lb, _, rfl, ⟨_, rfl⟩, _, rfl, rfl, by omega, _, _, rfl, rfl, sum_ok (show (("look " : String) : Str).length ≤ 5 by decide +kernel) lup, _, _, rfl, rfl, sum_ok (len_app (show (("look " : String) : Str).length ≤ 5 by decide +kernel) lup) (show ((" = 1" : String) : Str).length ≤ 4 by decide +kernel), _, rfl, _, _, rfl, rfl, sum_ok (show (("hold look " : String) : Str).length ≤ 10 by decide +kernel) la, _, _, rfl, rfl, sum_ok (len_app (show (("hold look " : String) : Str).length ≤ 10 by decide +kernel) la) (show ((" = 1" : String) : Str).length ≤ 4 by decide +kernel), by show 3 ≤ sizeLine; decide, fun l8 hl8 => ?_⟩
    have sS := sS.trans (Same.new (o := .lst [V.str ((((("look row " : String) : Str) ++ a) ++ ((" + " : String) : Str)) ++ b), V.str (((("look " : String) : Str) ++ (Txt.upper a)) ++ ((" = 1" : String) : Str)), V.str (((("hold look " : String) : Str) ++ a) ++ ((" = 1" : String) : Str))]) hl8)
    have hD := Same.new (o := .lst [V.str ((((("look row " : String) : Str) ++ a) ++ ((" + " : String) : Str)) ++ b), V.str (((("look " : String) : Str) ++ (Txt.upper a)) ++ ((" = 1" : String) : Str)), V.str (((("hold look " : String) : Str) ++ a) ++ ((" = 1" : String) : Str))]) hl8 _ _ hD
    have el := upd_same (H := H1_15) (a := l8) (o := .lst [V.str ((((("look row " : String) : Str) ++ a) ++ ((" + " : String) : Str)) ++ b), V.str (((("look " : String) : Str) ++ (Txt.upper a)) ++ ((" = 1" : String) : Str)), V.str (((("hold look " : String) : Str) ++ a) ++ ((" = 1" : String) : Str))])
    generalize upd H1_15 l8 (.lst [V.str ((((("look row " : String) : Str) ++ a) ++ ((" + " : String) : Str)) ++ b), V.str (((("look " : String) : Str) ++ (Txt.upper a)) ++ ((" = 1" : String) : Str)), V.str (((("hold look " : String) : Str) ++ a) ++ ((" = 1" : String) : Str))]) = H1_16 at sS hD el ⊢
    refine ⟨D7, l8, _, _, rfl, rfl, hD, el, by rw [List.length_map, nW]; show 29 + 3 ≤ sizeLine; decide, fun D8 hD8 => ?_⟩
    rw [show W.map V.str ++ [V.str ((((("look row " : String) : Str) ++ a) ++ ((" + " : String) : Str)) ++ b), V.str (((("look " : String) : Str) ++ (Txt.upper a)) ++ ((" = 1" : String) : Str)), V.str (((("hold look " : String) : Str) ++ a) ++ ((" = 1" : String) : Str))] = (W ++ ([((((("look row " : String) : Str) ++ a) ++ ((" + " : String) : Str)) ++ b), (((("look " : String) : Str) ++ (Txt.upper a)) ++ ((" = 1" : String) : Str)), (((("hold look " : String) : Str) ++ a) ++ ((" = 1" : String) : Str))] : List Str)).map V.str by rw [List.map_append]; rfl]
    have nD := Same.noneN sS hD8
    have sS := sS.trans (Same.new (o := .lst ((W ++ ([((((("look row " : String) : Str) ++ a) ++ ((" + " : String) : Str)) ++ b), (((("look " : String) : Str) ++ (Txt.upper a)) ++ ((" = 1" : String) : Str)), (((("hold look " : String) : Str) ++ a) ++ ((" = 1" : String) : Str))] : List Str)).map V.str)) hD8)
    have hD := upd_same (H := H1_16) (a := D8) (o := .lst ((W ++ ([((((("look row " : String) : Str) ++ a) ++ ((" + " : String) : Str)) ++ b), (((("look " : String) : Str) ++ (Txt.upper a)) ++ ((" = 1" : String) : Str)), (((("hold look " : String) : Str) ++ a) ++ ((" = 1" : String) : Str))] : List Str)).map V.str))
    have hW := mem_both hW (w1_7 ha hb hab)
    have nW : (W ++ ([((((("look row " : String) : Str) ++ a) ++ ((" + " : String) : Str)) ++ b), (((("look " : String) : Str) ++ (Txt.upper a)) ++ ((" = 1" : String) : Str)), (((("hold look " : String) : Str) ++ a) ++ ((" = 1" : String) : Str))] : List Str)).length = 32 := by rw [List.length_append, nW]; rfl
    generalize upd H1_16 D8 (.lst ((W ++ ([((((("look row " : String) : Str) ++ a) ++ ((" + " : String) : Str)) ++ b), (((("look " : String) : Str) ++ (Txt.upper a)) ++ ((" = 1" : String) : Str)), (((("hold look " : String) : Str) ++ a) ++ ((" = 1" : String) : Str))] : List Str)).map V.str)) = H1_17 at sS hD ⊢
    generalize W ++ ([((((("look row " : String) : Str) ++ a) ++ ((" + " : String) : Str)) ++ b), (((("look " : String) : Str) ++ (Txt.upper a)) ++ ((" = 1" : String) : Str)), (((("hold look " : String) : Str) ++ a) ++ ((" = 1" : String) : Str))] : List Str) = W at hW nW hD ⊢
    refine ⟨_, rfl, _, rfl, _, _, rfl, rfl, sum_ok (show (("look " : String) : Str).length ≤ 5 by decide +kernel) la, _, _, rfl, rfl, sum_ok (len_app (show (("look " : String) : Str).length ≤ 5 by decide +kernel) la) (show ((" < 12" : String) : Str).length ≤ 5 by decide +kernel), _, rfl, _, _, rfl, rfl, sum_ok (show (("look " : String) : Str).length ≤ 5 by decide +kernel) la, _, _, rfl, rfl, sum_ok (len_app (show (("look " : String) : Str).length ≤ 5 by decide +kernel) la) (show ((" < " : String) : Str).length ≤ 3 by decide +kernel), by show 2 ≤ sizeLine; decide, fun l9 hl9 => ?_⟩
    have sS := sS.trans (Same.new (o := .lst [V.str (((("look " : String) : Str) ++ a) ++ ((" < 12" : String) : Str)), V.str (((("look " : String) : Str) ++ a) ++ ((" < " : String) : Str))]) hl9)
    have hD := Same.new (o := .lst [V.str (((("look " : String) : Str) ++ a) ++ ((" < 12" : String) : Str)), V.str (((("look " : String) : Str) ++ a) ++ ((" < " : String) : Str))]) hl9 _ _ hD
    have el := upd_same (H := H1_17) (a := l9) (o := .lst [V.str (((("look " : String) : Str) ++ a) ++ ((" < 12" : String) : Str)), V.str (((("look " : String) : Str) ++ a) ++ ((" < " : String) : Str))])
    generalize upd H1_17 l9 (.lst [V.str (((("look " : String) : Str) ++ a) ++ ((" < 12" : String) : Str)), V.str (((("look " : String) : Str) ++ a) ++ ((" < " : String) : Str))]) = H1_18 at sS hD el ⊢
    refine ⟨D8, l9, _, _, rfl, rfl, hD, el, by rw [List.length_map, nW]; show 32 + 2 ≤ sizeLine; decide, fun D9 hD9 => ?_⟩
    rw [show W.map V.str ++ [V.str (((("look " : String) : Str) ++ a) ++ ((" < 12" : String) : Str)), V.str (((("look " : String) : Str) ++ a) ++ ((" < " : String) : Str))] = (W ++ ([(((("look " : String) : Str) ++ a) ++ ((" < 12" : String) : Str)), (((("look " : String) : Str) ++ a) ++ ((" < " : String) : Str))] : List Str)).map V.str by rw [List.map_append]; rfl]
    exact k D9 _ _ (Same.noneN sS hD9) (sS.trans (Same.new hD9)) upd_same (mem_both hW (w1_8 ha hb hab)) (by rw [List.length_append, nW]; rfl)
theorem ok_faults2 {f : Addr} {fd : FuncData} (F : Fun K "_law_second_faults" "_law_second_faults" s_l_second_faults f fd) : FnOk P w K mg base CX0 1 f fd ["_law_a", "_law_b"] (spFaults 35) := by
  refine F.ok sc_l_second_faults (fun vs H Q E h => ?_) (fun cdv A outer s H vs Q E hr h => ?_)
  · obtain ⟨_, _, rfl, _⟩ := h
    rfl
  · obtain ⟨a, b, rfl, ha, hb, hab, k⟩ := h
    refine ⟨_, (pss_cons (ps_set (i := 2) sc_l_second_faults.nd rfl (Or.inl rfl) (pe_op op_add_str (pe_op op_add_str (pe_op op_add_str pe_str (pv 0)) pe_str) (pv 1)))
      (pss_cons (ps_set (i := 3) sc_l_second_faults.nd rfl (Or.inl rfl) (pe_lst (pa_cons pe_str (pa_cons pe_str (pa_cons (pe_op op_add_str pe_str (pv 0)) (pa_cons (pe_op op_add_str (pe_op op_add_str pe_str (pv 0)) pe_str) (pa_cons (pe_op op_add_str (pe_op op_add_str (pe_op op_add_str pe_str (pv 2)) pe_str) (pv 0)) pa_nil)))))))
      (pss_cons (ps_expr (pe_bm PySem.F.plainAttrs_list PySem.F.slot_list_append PySem.F.type_list_append mt_append (pv 3) (pa_cons (pe_op op_add_str (pe_op op_add_str (pe_op op_add_str (pe_op op_add_str (pe_op op_add_str pe_str (pv 0)) pe_str) (pv 1)) pe_str) (pv 0)) pa_nil)))
      (pss_cons (ps_set (i := 3) sc_l_second_faults.nd rfl (Or.inl rfl) (pe_op op_cat (pv 3) (pe_lst (pa_cons (pe_op op_add_str (pe_op op_add_str (pe_op op_add_str (pe_op op_add_str (pe_op op_add_str pe_str (pv 0)) pe_str) (pv 1)) pe_str) (pv 0)) (pa_cons (pe_op op_add_str (pe_op op_add_str (pe_op op_add_str (pe_op op_add_str pe_str (pv 0)) pe_str) (pv 1)) pe_str) (pa_cons pe_str pa_nil))))))
      (pss_cons (ps_set (i := 3) sc_l_second_faults.nd rfl (Or.inl rfl) (pe_op op_cat (pv 3) (pe_lst (pa_cons (pe_op op_add_str (pe_op op_add_str (pe_op op_add_str pe_str (pv 0)) pe_str) (pv 1)) (pa_cons pe_str (pa_cons (pe_op op_add_str (pe_op op_add_str pe_str (pv 0)) pe_str) (pa_cons (pe_op op_add_str (pe_op op_add_str pe_str (pv 0)) pe_str) pa_nil)))))))
      (pss_cons (ps_set (i := 3) sc_l_second_faults.nd rfl (Or.inl rfl) (pe_op op_cat (pv 3) (pe_lst (pa_cons (pe_op op_add_str (pe_op op_add_str (pe_op op_add_str (pe_op op_add_str (pe_op op_add_str pe_str (pv 0)) pe_str) (pv 1)) pe_str) (pv 0)) (pa_cons (pe_op op_add_str pe_str (pv 0)) (pa_cons (pe_op op_add_str (pe_op op_add_str (pe_op op_add_str pe_str (pv 2)) pe_str) (pv 2)) pa_nil))))))
      (pss_cons (ps_set (i := 3) sc_l_second_faults.nd rfl (Or.inl rfl) (pe_op op_cat (pv 3) (pe_lst (pa_cons (pe_op op_add_str (pe_op op_add_str (pe_op op_add_str (pe_op op_add_str (pe_op op_add_str pe_str (pv 2)) pe_str) (pv 0)) pe_str) (pv 1)) (pa_cons (pe_op op_add_str (pe_op op_add_str (pe_op op_add_str (pe_op op_add_str pe_str (pv 0)) pe_str) (pv 1)) pe_str) pa_nil)))))
      (pss_cons (ps_expr (pe_bm PySem.F.plainAttrs_list PySem.F.slot_list_append PySem.F.type_list_append mt_append (pv 3) (pa_cons (pe_op op_add_str (pe_op op_add_str pe_str (pv 0)) pe_str) pa_nil)))
      (pss_cons (ps_set (i := 3) sc_l_second_faults.nd rfl (Or.inl rfl) (pe_op op_cat (pv 3) (pe_lst (pa_cons (pe_op op_add_str (pe_op op_add_str pe_str (pv 0)) pe_str) (pa_cons (pe_op op_add_str (pe_op op_add_str (pe_op op_add_str (pe_op op_add_str pe_str (pv 0)) pe_str) (pv 0)) pe_str) (pa_cons (pe_op op_add_str (pe_op op_add_str (pe_op op_add_str pe_str (pv 0)) pe_str) (pv 1)) pa_nil))))))
      (pss_cons (ps_set (i := 3) sc_l_second_faults.nd rfl (Or.inl rfl) (pe_op op_cat (pv 3) (pe_lst (pa_cons (pe_op op_add_str (pe_op op_add_str (pe_op op_add_str (pe_op op_add_str (pe_op op_add_str (pe_op op_add_str pe_str (pv 0)) pe_str) (pv 0)) pe_str) (pv 1)) pe_str) (pa_cons (pe_op op_add_str pe_str (pe_join pe_str (pe_op op_rep (pe_lst (pa_cons (pe_op op_add_str pe_str (pv 0)) pa_nil)) pe_int))) pa_nil)))))
      (pss_cons (ps_set (i := 3) sc_l_second_faults.nd rfl (Or.inl rfl) (pe_op op_cat (pv 3) (pe_lst (pa_cons (pe_op op_add_str (pe_op op_add_str (pe_op op_add_str pe_str (pv 0)) pe_str) (pe_join pe_str (pe_op op_rep (pe_lst (pa_cons (pe_op op_add_str (pv 1) pe_str) pa_nil)) pe_int))) (pa_cons (pe_op op_add_str (pe_op op_add_str (pe_op op_add_str pe_str (pv 0)) pe_str) (pv 1)) pa_nil)))))
      (pss_cons (ps_set (i := 3) sc_l_second_faults.nd rfl (Or.inl rfl) (pe_op op_cat (pv 3) (pe_lst (pa_cons (pe_op op_add_str pe_str (pv 0)) (pa_cons (pe_op op_add_str pe_str (pv 0)) (pa_cons (pe_op op_add_str pe_str (pv 0)) (pa_cons (pe_op op_add_str pe_str (pv 0)) (pa_cons (pe_op op_add_str (pe_op op_add_str pe_str (pv 0)) pe_str) pa_nil))))))))
      (pss_cons (ps_set (i := 3) sc_l_second_faults.nd rfl (Or.inl rfl) (pe_op op_cat (pv 3) (pe_lst (pa_cons (pe_op op_add_str pe_str (pv 0)) (pa_cons (pe_op op_add_str (pe_op op_add_str pe_str (pv 0)) pe_str) pa_nil)))))
      (pss_one (ps_ret (pe_op op_cat (pv 3) (pe_lst (pa_cons (pe_op op_add_str pe_str (pv 0)) (pa_cons (pe_op op_add_str (pe_op op_add_str (pe_op op_add_str (pe_op op_add_str (pe_op op_add_str (pe_op op_add_str (pe_op op_add_str pe_str (pv 0)) pe_str) (pv 0)) pe_str) (pv 0)) pe_str) (pv 1)) pa_nil))))))))))))))))))), ?_⟩
    have la := kind_len ha
    have lb := kind_len hb
    have lone : (((((("row " : String) : Str) ++ a) ++ (((" -> " : String)) : Str)) ++ b)).length ≤ 24 := by rw [strLen_append, strLen_append, strLen_append, show (("row " : String) : Str).length = 4 from rfl, show ((" -> " : String) : Str).length = 4 from rfl]; omega
    have sS := Same.refl H
    refine ⟨_, rfl, _, _, rfl, rfl, sum_ok (show (("row " : String) : Str).length ≤ 4 by decide +kernel) la, _, _, rfl, rfl, sum_ok (len_app (show (("row " : String) : Str).length ≤ 4 by decide +kernel) la) (show ((" -> " : String) : Str).length ≤ 4 by decide +kernel), _, rfl, _, _, rfl, rfl, sum_ok (len_app (len_app (show (("row " : String) : Str).length ≤ 4 by decide +kernel) la) (show ((" -> " : String) : Str).length ≤ 4 by decide +kernel)) lb, ?_⟩
    refine ⟨_, rfl, _, _, rfl, rfl, sum_ok (show (("do row " : String) : Str).length ≤ 7 by decide +kernel) la, _, rfl, _, _, rfl, rfl, sum_ok (show (("do row " : String) : Str).length ≤ 7 by decide +kernel) la, _, _, rfl, rfl, sum_ok (len_app (show (("do row " : String) : Str).length ≤ 7 by decide +kernel) la) (show ((" -> " : String) : Str).length ≤ 4 by decide +kernel), _, rfl, _, _, rfl, rfl, sum_ok (show (("do " : String) : Str).length ≤ 3 by decide +kernel) lone, _, _, rfl, rfl, sum_ok (len_app (show (("do " : String) : Str).length ≤ 3 by decide +kernel) lone) (show ((" " : String) : Str).length ≤ 1 by decide +kernel), _, rfl, _, _, rfl, rfl, sum_ok (len_app (len_app (show (("do " : String) : Str).length ≤ 3 by decide +kernel) lone) (show ((" " : String) : Str).length ≤ 1 by decide +kernel)) la, by show 5 ≤ sizeLine; decide, fun D0 hD0 => ?_⟩
    rw [show ([V.str (("do" : String) : Str), V.str (("do " : String) : Str), V.str ((("do row " : String) : Str) ++ a), V.str (((("do row " : String) : Str) ++ a) ++ ((" -> " : String) : Str)), V.str ((((("do " : String) : Str) ++ ((((("row " : String) : Str) ++ a) ++ ((" -> " : String) : Str)) ++ b)) ++ ((" " : String) : Str)) ++ a)] : List V) = ([(("do" : String) : Str), (("do " : String) : Str), ((("do row " : String) : Str) ++ a), (((("do row " : String) : Str) ++ a) ++ ((" -> " : String) : Str)), ((((("do " : String) : Str) ++ ((((("row " : String) : Str) ++ a) ++ ((" -> " : String) : Str)) ++ b)) ++ ((" " : String) : Str)) ++ a)] : List Str).map V.str from rfl]
    have nD := Same.noneN sS hD0
    have sS := sS.trans (Same.new (o := .lst (([(("do" : String) : Str), (("do " : String) : Str), ((("do row " : String) : Str) ++ a), (((("do row " : String) : Str) ++ a) ++ ((" -> " : String) : Str)), ((((("do " : String) : Str) ++ ((((("row " : String) : Str) ++ a) ++ ((" -> " : String) : Str)) ++ b)) ++ ((" " : String) : Str)) ++ a)] : List Str).map V.str)) hD0)
    have hD := upd_same (H := H) (a := D0) (o := .lst (([(("do" : String) : Str), (("do " : String) : Str), ((("do row " : String) : Str) ++ a), (((("do row " : String) : Str) ++ a) ++ ((" -> " : String) : Str)), ((((("do " : String) : Str) ++ ((((("row " : String) : Str) ++ a) ++ ((" -> " : String) : Str)) ++ b)) ++ ((" " : String) : Str)) ++ a)] : List Str).map V.str))
    have hW := w2_1 ha hb hab
    have nW : ([(("do" : String) : Str), (("do " : String) : Str), ((("do row " : String) : Str) ++ a), (((("do row " : String) : Str) ++ a) ++ ((" -> " : String) : Str)), ((((("do " : String) : Str) ++ ((((("row " : String) : Str) ++ a) ++ ((" -> " : String) : Str)) ++ b)) ++ ((" " : String) : Str)) ++ a)] : List Str).length = 5 := rfl
    generalize upd H D0 (.lst (([(("do" : String) : Str), (("do " : String) : Str), ((("do row " : String) : Str) ++ a), (((("do row " : String) : Str) ++ a) ++ ((" -> " : String) : Str)), ((((("do " : String) : Str) ++ ((((("row " : String) : Str) ++ a) ++ ((" -> " : String) : Str)) ++ b)) ++ ((" " : String) : Str)) ++ a)] : List Str).map V.str)) = H2_1 at sS hD ⊢
    generalize ([(("do" : String) : Str), (("do " : String) : Str), ((("do row " : String) : Str) ++ a), (((("do row " : String) : Str) ++ a) ++ ((" -> " : String) : Str)), ((((("do " : String) : Str) ++ ((((("row " : String) : Str) ++ a) ++ ((" -> " : String) : Str)) ++ b)) ++ ((" " : String) : Str)) ++ a)] : List Str) = W at hW nW hD ⊢
    refine ⟨_, rfl, .inl ⟨rfl, _, SqL.of hD⟩, _, rfl, _, _, rfl, rfl, sum_ok (show (("do row " : String) : Str).length ≤ 7 by decide +kernel) la, _, _, rfl, rfl, sum_ok (len_app (show (("do row " : String) : Str).length ≤ 7 by decide +kernel) la) (show ((" + " : String) : Str).length ≤ 3 by decide +kernel), _, rfl, _, _, rfl, rfl, sum_ok (len_app (len_app (show (("do row " : String) : Str).length ≤ 7 by decide +kernel) la) (show ((" + " : String) : Str).length ≤ 3 by decide +kernel)) lb, _, _, rfl, rfl, sum_ok (len_app (len_app (len_app (show (("do row " : String) : Str).length ≤ 7 by decide +kernel) la) (show ((" + " : String) : Str).length ≤ 3 by decide +kernel)) lb) (show ((" -> " : String) : Str).length ≤ 4 by decide +kernel), _, rfl, _, _, rfl, rfl, sum_ok (len_app (len_app (len_app (len_app (show (("do row " : String) : Str).length ≤ 7 by decide +kernel) la) (show ((" + " : String) : Str).length ≤ 3 by decide +kernel)) lb) (show ((" -> " : String) : Str).length ≤ 4 by decide +kernel)) la, D0, _, _, rfl, rfl, hD, by rw [List.length_map, nW]; decide, ?_⟩
    rw [show W.map V.str ++ [V.str ((((((("do row " : String) : Str) ++ a) ++ ((" + " : String) : Str)) ++ b) ++ ((" -> " : String) : Str)) ++ a)] = (W ++ ([((((((("do row " : String) : Str) ++ a) ++ ((" + " : String) : Str)) ++ b) ++ ((" -> " : String) : Str)) ++ a)] : List Str)).map V.str by rw [List.map_append]; rfl]
    have sS := Same.updN (o := .lst ((W ++ ([((((((("do row " : String) : Str) ++ a) ++ ((" + " : String) : Str)) ++ b) ++ ((" -> " : String) : Str)) ++ a)] : List Str)).map V.str)) sS nD
    have hD := upd_same (H := H2_1) (a := D0) (o := .lst ((W ++ ([((((((("do row " : String) : Str) ++ a) ++ ((" + " : String) : Str)) ++ b) ++ ((" -> " : String) : Str)) ++ a)] : List Str)).map V.str))
    have hW := mem_both hW (w2_2 ha hb hab)
    have nW : (W ++ ([((((((("do row " : String) : Str) ++ a) ++ ((" + " : String) : Str)) ++ b) ++ ((" -> " : String) : Str)) ++ a)] : List Str)).length = 6 := by rw [List.length_append, nW]; rfl
    generalize upd H2_1 D0 (.lst ((W ++ ([((((((("do row " : String) : Str) ++ a) ++ ((" + " : String) : Str)) ++ b) ++ ((" -> " : String) : Str)) ++ a)] : List Str)).map V.str)) = H2_2 at sS hD ⊢
    generalize W ++ ([((((((("do row " : String) : Str) ++ a) ++ ((" + " : String) : Str)) ++ b) ++ ((" -> " : String) : Str)) ++ a)] : List Str) = W at hW nW hD ⊢
    refine ⟨_, rfl, _, rfl, _, _, rfl, rfl, sum_ok (show (("do one " : String) : Str).length ≤ 7 by decide +kernel) la, _, _, rfl, rfl, sum_ok (len_app (show (("do one " : String) : Str).length ≤ 7 by decide +kernel) la) (show ((" or " : String) : Str).length ≤ 4 by decide +kernel), _, rfl, _, _, rfl, rfl, sum_ok (len_app (len_app (show (("do one " : String) : Str).length ≤ 7 by decide +kernel) la) (show ((" or " : String) : Str).length ≤ 4 by decide +kernel)) lb, _, _, rfl, rfl, sum_ok (len_app (len_app (len_app (show (("do one " : String) : Str).length ≤ 7 by decide +kernel) la) (show ((" or " : String) : Str).length ≤ 4 by decide +kernel)) lb) (show ((" -> " : String) : Str).length ≤ 4 by decide +kernel), _, rfl, _, _, rfl, rfl, sum_ok (len_app (len_app (len_app (len_app (show (("do one " : String) : Str).length ≤ 7 by decide +kernel) la) (show ((" or " : String) : Str).length ≤ 4 by decide +kernel)) lb) (show ((" -> " : String) : Str).length ≤ 4 by decide +kernel)) la, _, rfl, _, _, rfl, rfl, sum_ok (show (("do all " : String) : Str).length ≤ 7 by decide +kernel) la, _, _, rfl, rfl, sum_ok (len_app (show (("do all " : String) : Str).length ≤ 7 by decide +kernel) la) (show ((" or " : String) : Str).length ≤ 4 by decide +kernel), _, rfl, _, _, rfl, rfl, sum_ok (len_app (len_app (show (("do all " : String) : Str).length ≤ 7 by decide +kernel) la) (show ((" or " : String) : Str).length ≤ 4 by decide +kernel)) lb, _, _, rfl, rfl, sum_ok (len_app (len_app (len_app (show (("do all " : String) : Str).length ≤ 7 by decide +kernel) la) (show ((" or " : String) : Str).length ≤ 4 by decide +kernel)) lb) (show ((" -> gone" : String) : Str).length ≤ 8 by decide +kernel), by show 3 ≤ sizeLine; decide, fun l10 hl10 => ?_⟩
    have sS := sS.trans (Same.new (o := .lst [V.str ((((((("do one " : String) : Str) ++ a) ++ ((" or " : String) : Str)) ++ b) ++ ((" -> " : String) : Str)) ++ a), V.str (((((("do all " : String) : Str) ++ a) ++ ((" or " : String) : Str)) ++ b) ++ ((" -> gone" : String) : Str)), V.str (("do new gone" : String) : Str)]) hl10)
    have hD := Same.new (o := .lst [V.str ((((((("do one " : String) : Str) ++ a) ++ ((" or " : String) : Str)) ++ b) ++ ((" -> " : String) : Str)) ++ a), V.str (((((("do all " : String) : Str) ++ a) ++ ((" or " : String) : Str)) ++ b) ++ ((" -> gone" : String) : Str)), V.str (("do new gone" : String) : Str)]) hl10 _ _ hD
    have el := upd_same (H := H2_2) (a := l10) (o := .lst [V.str ((((((("do one " : String) : Str) ++ a) ++ ((" or " : String) : Str)) ++ b) ++ ((" -> " : String) : Str)) ++ a), V.str (((((("do all " : String) : Str) ++ a) ++ ((" or " : String) : Str)) ++ b) ++ ((" -> gone" : String) : Str)), V.str (("do new gone" : String) : Str)])
    generalize upd H2_2 l10 (.lst [V.str ((((((("do one " : String) : Str) ++ a) ++ ((" or " : String) : Str)) ++ b) ++ ((" -> " : String) : Str)) ++ a), V.str (((((("do all " : String) : Str) ++ a) ++ ((" or " : String) : Str)) ++ b) ++ ((" -> gone" : String) : Str)), V.str (("do new gone" : String) : Str)]) = H2_3 at sS hD el ⊢
    refine ⟨D0, l10, _, _, rfl, rfl, hD, el, by rw [List.length_map, nW]; show 6 + 3 ≤ sizeLine; decide, fun D10 hD10 => ?_⟩
    rw [show W.map V.str ++ [V.str ((((((("do one " : String) : Str) ++ a) ++ ((" or " : String) : Str)) ++ b) ++ ((" -> " : String) : Str)) ++ a), V.str (((((("do all " : String) : Str) ++ a) ++ ((" or " : String) : Str)) ++ b) ++ ((" -> gone" : String) : Str)), V.str (("do new gone" : String) : Str)] = (W ++ ([((((((("do one " : String) : Str) ++ a) ++ ((" or " : String) : Str)) ++ b) ++ ((" -> " : String) : Str)) ++ a), (((((("do all " : String) : Str) ++ a) ++ ((" or " : String) : Str)) ++ b) ++ ((" -> gone" : String) : Str)), (("do new gone" : String) : Str)] : List Str)).map V.str by rw [List.map_append]; rfl]
    have nD := Same.noneN sS hD10
    have sS := sS.trans (Same.new (o := .lst ((W ++ ([((((((("do one " : String) : Str) ++ a) ++ ((" or " : String) : Str)) ++ b) ++ ((" -> " : String) : Str)) ++ a), (((((("do all " : String) : Str) ++ a) ++ ((" or " : String) : Str)) ++ b) ++ ((" -> gone" : String) : Str)), (("do new gone" : String) : Str)] : List Str)).map V.str)) hD10)
    have hD := upd_same (H := H2_3) (a := D10) (o := .lst ((W ++ ([((((((("do one " : String) : Str) ++ a) ++ ((" or " : String) : Str)) ++ b) ++ ((" -> " : String) : Str)) ++ a), (((((("do all " : String) : Str) ++ a) ++ ((" or " : String) : Str)) ++ b) ++ ((" -> gone" : String) : Str)), (("do new gone" : String) : Str)] : List Str)).map V.str))
    have hW := mem_both hW (w2_3 ha hb hab)
    have nW : (W ++ ([((((((("do one " : String) : Str) ++ a) ++ ((" or " : String) : Str)) ++ b) ++ ((" -> " : String) : Str)) ++ a), (((((("do all " : String) : Str) ++ a) ++ ((" or " : String) : Str)) ++ b) ++ ((" -> gone" : String) : Str)), (("do new gone" : String) : Str)] : List Str)).length = 9 := by rw [List.length_append, nW]; rfl
    generalize upd H2_3 D10 (.lst ((W ++ ([((((((("do one " : String) : Str) ++ a) ++ ((" or " : String) : Str)) ++ b) ++ ((" -> " : String) : Str)) ++ a), (((((("do all " : String) : Str) ++ a) ++ ((" or " : String) : Str)) ++ b) ++ ((" -> gone" : String) : Str)), (("do new gone" : String) : Str)] : List Str)).map V.str)) = H2_4 at sS hD ⊢
    generalize W ++ ([((((((("do one " : String) : Str) ++ a) ++ ((" or " : String) : Str)) ++ b) ++ ((" -> " : String) : Str)) ++ a), (((((("do all " : String) : Str) ++ a) ++ ((" or " : String) : Str)) ++ b) ++ ((" -> gone" : String) : Str)), (("do new gone" : String) : Str)] : List Str) = W at hW nW hD ⊢
    refine ⟨_, rfl, _, rfl, _, _, rfl, rfl, sum_ok (show (("do new " : String) : Str).length ≤ 7 by decide +kernel) la, _, _, rfl, rfl, sum_ok (len_app (show (("do new " : String) : Str).length ≤ 7 by decide +kernel) la) (show ((" or " : String) : Str).length ≤ 4 by decide +kernel), _, rfl, _, _, rfl, rfl, sum_ok (len_app (len_app (show (("do new " : String) : Str).length ≤ 7 by decide +kernel) la) (show ((" or " : String) : Str).length ≤ 4 by decide +kernel)) lb, _, rfl, _, _, rfl, rfl, sum_ok (show (("do give " : String) : Str).length ≤ 8 by decide +kernel) la, _, _, rfl, rfl, sum_ok (len_app (show (("do give " : String) : Str).length ≤ 8 by decide +kernel) la) (show ((" -> gone" : String) : Str).length ≤ 8 by decide +kernel), _, rfl, _, _, rfl, rfl, sum_ok (show (("do take " : String) : Str).length ≤ 8 by decide +kernel) la, _, _, rfl, rfl, sum_ok (len_app (show (("do take " : String) : Str).length ≤ 8 by decide +kernel) la) (show ((" -> gone" : String) : Str).length ≤ 8 by decide +kernel), by show 4 ≤ sizeLine; decide, fun l11 hl11 => ?_⟩
    have sS := sS.trans (Same.new (o := .lst [V.str ((((("do new " : String) : Str) ++ a) ++ ((" or " : String) : Str)) ++ b), V.str (("do new" : String) : Str), V.str (((("do give " : String) : Str) ++ a) ++ ((" -> gone" : String) : Str)), V.str (((("do take " : String) : Str) ++ a) ++ ((" -> gone" : String) : Str))]) hl11)
    have hD := Same.new (o := .lst [V.str ((((("do new " : String) : Str) ++ a) ++ ((" or " : String) : Str)) ++ b), V.str (("do new" : String) : Str), V.str (((("do give " : String) : Str) ++ a) ++ ((" -> gone" : String) : Str)), V.str (((("do take " : String) : Str) ++ a) ++ ((" -> gone" : String) : Str))]) hl11 _ _ hD
    have el := upd_same (H := H2_4) (a := l11) (o := .lst [V.str ((((("do new " : String) : Str) ++ a) ++ ((" or " : String) : Str)) ++ b), V.str (("do new" : String) : Str), V.str (((("do give " : String) : Str) ++ a) ++ ((" -> gone" : String) : Str)), V.str (((("do take " : String) : Str) ++ a) ++ ((" -> gone" : String) : Str))])
    generalize upd H2_4 l11 (.lst [V.str ((((("do new " : String) : Str) ++ a) ++ ((" or " : String) : Str)) ++ b), V.str (("do new" : String) : Str), V.str (((("do give " : String) : Str) ++ a) ++ ((" -> gone" : String) : Str)), V.str (((("do take " : String) : Str) ++ a) ++ ((" -> gone" : String) : Str))]) = H2_5 at sS hD el ⊢
    refine ⟨D10, l11, _, _, rfl, rfl, hD, el, by rw [List.length_map, nW]; show 9 + 4 ≤ sizeLine; decide, fun D11 hD11 => ?_⟩
    rw [show W.map V.str ++ [V.str ((((("do new " : String) : Str) ++ a) ++ ((" or " : String) : Str)) ++ b), V.str (("do new" : String) : Str), V.str (((("do give " : String) : Str) ++ a) ++ ((" -> gone" : String) : Str)), V.str (((("do take " : String) : Str) ++ a) ++ ((" -> gone" : String) : Str))] = (W ++ ([((((("do new " : String) : Str) ++ a) ++ ((" or " : String) : Str)) ++ b), (("do new" : String) : Str), (((("do give " : String) : Str) ++ a) ++ ((" -> gone" : String) : Str)), (((("do take " : String) : Str) ++ a) ++ ((" -> gone" : String) : Str))] : List Str)).map V.str by rw [List.map_append]; rfl]
    have nD := Same.noneN sS hD11
    have sS := sS.trans (Same.new (o := .lst ((W ++ ([((((("do new " : String) : Str) ++ a) ++ ((" or " : String) : Str)) ++ b), (("do new" : String) : Str), (((("do give " : String) : Str) ++ a) ++ ((" -> gone" : String) : Str)), (((("do take " : String) : Str) ++ a) ++ ((" -> gone" : String) : Str))] : List Str)).map V.str)) hD11)
    have hD := upd_same (H := H2_5) (a := D11) (o := .lst ((W ++ ([((((("do new " : String) : Str) ++ a) ++ ((" or " : String) : Str)) ++ b), (("do new" : String) : Str), (((("do give " : String) : Str) ++ a) ++ ((" -> gone" : String) : Str)), (((("do take " : String) : Str) ++ a) ++ ((" -> gone" : String) : Str))] : List Str)).map V.str))
    have hW := mem_both hW (w2_4 ha hb hab)
    have nW : (W ++ ([((((("do new " : String) : Str) ++ a) ++ ((" or " : String) : Str)) ++ b), (("do new" : String) : Str), (((("do give " : String) : Str) ++ a) ++ ((" -> gone" : String) : Str)), (((("do take " : String) : Str) ++ a) ++ ((" -> gone" : String) : Str))] : List Str)).length = 13 := by rw [List.length_append, nW]; rfl
    generalize upd H2_5 D11 (.lst ((W ++ ([((((("do new " : String) : Str) ++ a) ++ ((" or " : String) : Str)) ++ b), (("do new" : String) : Str), (((("do give " : String) : Str) ++ a) ++ ((" -> gone" : String) : Str)), (((("do take " : String) : Str) ++ a) ++ ((" -> gone" : String) : Str))] : List Str)).map V.str)) = H2_6 at sS hD ⊢
    generalize W ++ ([((((("do new " : String) : Str) ++ a) ++ ((" or " : String) : Str)) ++ b), (("do new" : String) : Str), (((("do give " : String) : Str) ++ a) ++ ((" -> gone" : String) : Str)), (((("do take " : String) : Str) ++ a) ++ ((" -> gone" : String) : Str))] : List Str) = W at hW nW hD ⊢
    refine ⟨_, rfl, _, rfl, _, _, rfl, rfl, sum_ok (show (("do take " : String) : Str).length ≤ 8 by decide +kernel) la, _, _, rfl, rfl, sum_ok (len_app (show (("do take " : String) : Str).length ≤ 8 by decide +kernel) la) (show ((" or " : String) : Str).length ≤ 4 by decide +kernel), _, rfl, _, _, rfl, rfl, sum_ok (len_app (len_app (show (("do take " : String) : Str).length ≤ 8 by decide +kernel) la) (show ((" or " : String) : Str).length ≤ 4 by decide +kernel)) lb, _, _, rfl, rfl, sum_ok (len_app (len_app (len_app (show (("do take " : String) : Str).length ≤ 8 by decide +kernel) la) (show ((" or " : String) : Str).length ≤ 4 by decide +kernel)) lb) (show ((" -> " : String) : Str).length ≤ 4 by decide +kernel), _, rfl, _, _, rfl, rfl, sum_ok (len_app (len_app (len_app (len_app (show (("do take " : String) : Str).length ≤ 8 by decide +kernel) la) (show ((" or " : String) : Str).length ≤ 4 by decide +kernel)) lb) (show ((" -> " : String) : Str).length ≤ 4 by decide +kernel)) la, _, rfl, _, _, rfl, rfl, sum_ok (show (("do join " : String) : Str).length ≤ 8 by decide +kernel) la, _, rfl, _, _, rfl, rfl, sum_ok (show (("do " : String) : Str).length ≤ 3 by decide +kernel) lone, _, _, rfl, rfl, sum_ok (len_app (show (("do " : String) : Str).length ≤ 3 by decide +kernel) lone) (show ((" then " : String) : Str).length ≤ 6 by decide +kernel), _, rfl, _, _, rfl, rfl, sum_ok (len_app (len_app (show (("do " : String) : Str).length ≤ 3 by decide +kernel) lone) (show ((" then " : String) : Str).length ≤ 6 by decide +kernel)) lone, by show 3 ≤ sizeLine; decide, fun l12 hl12 => ?_⟩
    have sS := sS.trans (Same.new (o := .lst [V.str ((((((("do take " : String) : Str) ++ a) ++ ((" or " : String) : Str)) ++ b) ++ ((" -> " : String) : Str)) ++ a), V.str ((("do join " : String) : Str) ++ a), V.str ((((("do " : String) : Str) ++ ((((("row " : String) : Str) ++ a) ++ ((" -> " : String) : Str)) ++ b)) ++ ((" then " : String) : Str)) ++ ((((("row " : String) : Str) ++ a) ++ ((" -> " : String) : Str)) ++ b))]) hl12)
    have hD := Same.new (o := .lst [V.str ((((((("do take " : String) : Str) ++ a) ++ ((" or " : String) : Str)) ++ b) ++ ((" -> " : String) : Str)) ++ a), V.str ((("do join " : String) : Str) ++ a), V.str ((((("do " : String) : Str) ++ ((((("row " : String) : Str) ++ a) ++ ((" -> " : String) : Str)) ++ b)) ++ ((" then " : String) : Str)) ++ ((((("row " : String) : Str) ++ a) ++ ((" -> " : String) : Str)) ++ b))]) hl12 _ _ hD
    have el := upd_same (H := H2_6) (a := l12) (o := .lst [V.str ((((((("do take " : String) : Str) ++ a) ++ ((" or " : String) : Str)) ++ b) ++ ((" -> " : String) : Str)) ++ a), V.str ((("do join " : String) : Str) ++ a), V.str ((((("do " : String) : Str) ++ ((((("row " : String) : Str) ++ a) ++ ((" -> " : String) : Str)) ++ b)) ++ ((" then " : String) : Str)) ++ ((((("row " : String) : Str) ++ a) ++ ((" -> " : String) : Str)) ++ b))])
    generalize upd H2_6 l12 (.lst [V.str ((((((("do take " : String) : Str) ++ a) ++ ((" or " : String) : Str)) ++ b) ++ ((" -> " : String) : Str)) ++ a), V.str ((("do join " : String) : Str) ++ a), V.str ((((("do " : String) : Str) ++ ((((("row " : String) : Str) ++ a) ++ ((" -> " : String) : Str)) ++ b)) ++ ((" then " : String) : Str)) ++ ((((("row " : String) : Str) ++ a) ++ ((" -> " : String) : Str)) ++ b))]) = H2_7 at sS hD el ⊢
    refine ⟨D11, l12, _, _, rfl, rfl, hD, el, by rw [List.length_map, nW]; show 13 + 3 ≤ sizeLine; decide, fun D12 hD12 => ?_⟩
    rw [show W.map V.str ++ [V.str ((((((("do take " : String) : Str) ++ a) ++ ((" or " : String) : Str)) ++ b) ++ ((" -> " : String) : Str)) ++ a), V.str ((("do join " : String) : Str) ++ a), V.str ((((("do " : String) : Str) ++ ((((("row " : String) : Str) ++ a) ++ ((" -> " : String) : Str)) ++ b)) ++ ((" then " : String) : Str)) ++ ((((("row " : String) : Str) ++ a) ++ ((" -> " : String) : Str)) ++ b))] = (W ++ ([((((((("do take " : String) : Str) ++ a) ++ ((" or " : String) : Str)) ++ b) ++ ((" -> " : String) : Str)) ++ a), ((("do join " : String) : Str) ++ a), ((((("do " : String) : Str) ++ ((((("row " : String) : Str) ++ a) ++ ((" -> " : String) : Str)) ++ b)) ++ ((" then " : String) : Str)) ++ ((((("row " : String) : Str) ++ a) ++ ((" -> " : String) : Str)) ++ b))] : List Str)).map V.str by rw [List.map_append]; rfl]
    have nD := Same.noneN sS hD12
    have sS := sS.trans (Same.new (o := .lst ((W ++ ([((((((("do take " : String) : Str) ++ a) ++ ((" or " : String) : Str)) ++ b) ++ ((" -> " : String) : Str)) ++ a), ((("do join " : String) : Str) ++ a), ((((("do " : String) : Str) ++ ((((("row " : String) : Str) ++ a) ++ ((" -> " : String) : Str)) ++ b)) ++ ((" then " : String) : Str)) ++ ((((("row " : String) : Str) ++ a) ++ ((" -> " : String) : Str)) ++ b))] : List Str)).map V.str)) hD12)
    have hD := upd_same (H := H2_7) (a := D12) (o := .lst ((W ++ ([((((((("do take " : String) : Str) ++ a) ++ ((" or " : String) : Str)) ++ b) ++ ((" -> " : String) : Str)) ++ a), ((("do join " : String) : Str) ++ a), ((((("do " : String) : Str) ++ ((((("row " : String) : Str) ++ a) ++ ((" -> " : String) : Str)) ++ b)) ++ ((" then " : String) : Str)) ++ ((((("row " : String) : Str) ++ a) ++ ((" -> " : String) : Str)) ++ b))] : List Str)).map V.str))
    have hW := mem_both hW (w2_5 ha hb hab)
    have nW : (W ++ ([((((((("do take " : String) : Str) ++ a) ++ ((" or " : String) : Str)) ++ b) ++ ((" -> " : String) : Str)) ++ a), ((("do join " : String) : Str) ++ a), ((((("do " : String) : Str) ++ ((((("row " : String) : Str) ++ a) ++ ((" -> " : String) : Str)) ++ b)) ++ ((" then " : String) : Str)) ++ ((((("row " : String) : Str) ++ a) ++ ((" -> " : String) : Str)) ++ b))] : List Str)).length = 16 := by rw [List.length_append, nW]; rfl
    generalize upd H2_7 D12 (.lst ((W ++ ([((((((("do take " : String) : Str) ++ a) ++ ((" or " : String) : Str)) ++ b) ++ ((" -> " : String) : Str)) ++ a), ((("do join " : String) : Str) ++ a), ((((("do " : String) : Str) ++ ((((("row " : String) : Str) ++ a) ++ ((" -> " : String) : Str)) ++ b)) ++ ((" then " : String) : Str)) ++ ((((("row " : String) : Str) ++ a) ++ ((" -> " : String) : Str)) ++ b))] : List Str)).map V.str)) = H2_8 at sS hD ⊢
    generalize W ++ ([((((((("do take " : String) : Str) ++ a) ++ ((" or " : String) : Str)) ++ b) ++ ((" -> " : String) : Str)) ++ a), ((("do join " : String) : Str) ++ a), ((((("do " : String) : Str) ++ ((((("row " : String) : Str) ++ a) ++ ((" -> " : String) : Str)) ++ b)) ++ ((" then " : String) : Str)) ++ ((((("row " : String) : Str) ++ a) ++ ((" -> " : String) : Str)) ++ b))] : List Str) = W at hW nW hD ⊢
    refine ⟨_, rfl, _, rfl, _, _, rfl, rfl, sum_ok (show (("do " : String) : Str).length ≤ 3 by decide +kernel) lone, _, _, rfl, rfl, sum_ok (len_app (show (("do " : String) : Str).length ≤ 3 by decide +kernel) lone) (show ((" then give " : String) : Str).length ≤ 11 by decide +kernel), _, rfl, _, _, rfl, rfl, sum_ok (len_app (len_app (show (("do " : String) : Str).length ≤ 3 by decide +kernel) lone) (show ((" then give " : String) : Str).length ≤ 11 by decide +kernel)) la, _, _, rfl, rfl, sum_ok (len_app (len_app (len_app (show (("do " : String) : Str).length ≤ 3 by decide +kernel) lone) (show ((" then give " : String) : Str).length ≤ 11 by decide +kernel)) la) (show ((" -> " : String) : Str).length ≤ 4 by decide +kernel), _, rfl, _, _, rfl, rfl, sum_ok (len_app (len_app (len_app (len_app (show (("do " : String) : Str).length ≤ 3 by decide +kernel) lone) (show ((" then give " : String) : Str).length ≤ 11 by decide +kernel)) la) (show ((" -> " : String) : Str).length ≤ 4 by decide +kernel)) lb, _, rfl, _, _, rfl, rfl, sum_ok (show (("do take " : String) : Str).length ≤ 8 by decide +kernel) la, _, _, rfl, rfl, sum_ok (len_app (show (("do take " : String) : Str).length ≤ 8 by decide +kernel) la) (show ((" -> " : String) : Str).length ≤ 4 by decide +kernel), _, rfl, _, _, rfl, rfl, sum_ok (len_app (len_app (show (("do take " : String) : Str).length ≤ 8 by decide +kernel) la) (show ((" -> " : String) : Str).length ≤ 4 by decide +kernel)) lb, _, _, rfl, rfl, sum_ok (len_app (len_app (len_app (show (("do take " : String) : Str).length ≤ 8 by decide +kernel) la) (show ((" -> " : String) : Str).length ≤ 4 by decide +kernel)) lb) (show ((" then join" : String) : Str).length ≤ 10 by decide +kernel), by show 2 ≤ sizeLine; decide, fun l13 hl13 => ?_⟩
    have sS := sS.trans (Same.new (o := .lst [V.str ((((((("do " : String) : Str) ++ ((((("row " : String) : Str) ++ a) ++ ((" -> " : String) : Str)) ++ b)) ++ ((" then give " : String) : Str)) ++ a) ++ ((" -> " : String) : Str)) ++ b), V.str (((((("do take " : String) : Str) ++ a) ++ ((" -> " : String) : Str)) ++ b) ++ ((" then join" : String) : Str))]) hl13)
    have hD := Same.new (o := .lst [V.str ((((((("do " : String) : Str) ++ ((((("row " : String) : Str) ++ a) ++ ((" -> " : String) : Str)) ++ b)) ++ ((" then give " : String) : Str)) ++ a) ++ ((" -> " : String) : Str)) ++ b), V.str (((((("do take " : String) : Str) ++ a) ++ ((" -> " : String) : Str)) ++ b) ++ ((" then join" : String) : Str))]) hl13 _ _ hD
    have el := upd_same (H := H2_8) (a := l13) (o := .lst [V.str ((((((("do " : String) : Str) ++ ((((("row " : String) : Str) ++ a) ++ ((" -> " : String) : Str)) ++ b)) ++ ((" then give " : String) : Str)) ++ a) ++ ((" -> " : String) : Str)) ++ b), V.str (((((("do take " : String) : Str) ++ a) ++ ((" -> " : String) : Str)) ++ b) ++ ((" then join" : String) : Str))])
    generalize upd H2_8 l13 (.lst [V.str ((((((("do " : String) : Str) ++ ((((("row " : String) : Str) ++ a) ++ ((" -> " : String) : Str)) ++ b)) ++ ((" then give " : String) : Str)) ++ a) ++ ((" -> " : String) : Str)) ++ b), V.str (((((("do take " : String) : Str) ++ a) ++ ((" -> " : String) : Str)) ++ b) ++ ((" then join" : String) : Str))]) = H2_9 at sS hD el ⊢
    refine ⟨D12, l13, _, _, rfl, rfl, hD, el, by rw [List.length_map, nW]; show 16 + 2 ≤ sizeLine; decide, fun D13 hD13 => ?_⟩
    rw [show W.map V.str ++ [V.str ((((((("do " : String) : Str) ++ ((((("row " : String) : Str) ++ a) ++ ((" -> " : String) : Str)) ++ b)) ++ ((" then give " : String) : Str)) ++ a) ++ ((" -> " : String) : Str)) ++ b), V.str (((((("do take " : String) : Str) ++ a) ++ ((" -> " : String) : Str)) ++ b) ++ ((" then join" : String) : Str))] = (W ++ ([((((((("do " : String) : Str) ++ ((((("row " : String) : Str) ++ a) ++ ((" -> " : String) : Str)) ++ b)) ++ ((" then give " : String) : Str)) ++ a) ++ ((" -> " : String) : Str)) ++ b), (((((("do take " : String) : Str) ++ a) ++ ((" -> " : String) : Str)) ++ b) ++ ((" then join" : String) : Str))] : List Str)).map V.str by rw [List.map_append]; rfl]
    have nD := Same.noneN sS hD13
    have sS := sS.trans (Same.new (o := .lst ((W ++ ([((((((("do " : String) : Str) ++ ((((("row " : String) : Str) ++ a) ++ ((" -> " : String) : Str)) ++ b)) ++ ((" then give " : String) : Str)) ++ a) ++ ((" -> " : String) : Str)) ++ b), (((((("do take " : String) : Str) ++ a) ++ ((" -> " : String) : Str)) ++ b) ++ ((" then join" : String) : Str))] : List Str)).map V.str)) hD13)
    have hD := upd_same (H := H2_9) (a := D13) (o := .lst ((W ++ ([((((((("do " : String) : Str) ++ ((((("row " : String) : Str) ++ a) ++ ((" -> " : String) : Str)) ++ b)) ++ ((" then give " : String) : Str)) ++ a) ++ ((" -> " : String) : Str)) ++ b), (((((("do take " : String) : Str) ++ a) ++ ((" -> " : String) : Str)) ++ b) ++ ((" then join" : String) : Str))] : List Str)).map V.str))
    have hW := mem_both hW (w2_6 ha hb hab)
    have nW : (W ++ ([((((((("do " : String) : Str) ++ ((((("row " : String) : Str) ++ a) ++ ((" -> " : String) : Str)) ++ b)) ++ ((" then give " : String) : Str)) ++ a) ++ ((" -> " : String) : Str)) ++ b), (((((("do take " : String) : Str) ++ a) ++ ((" -> " : String) : Str)) ++ b) ++ ((" then join" : String) : Str))] : List Str)).length = 18 := by rw [List.length_append, nW]; rfl
    generalize upd H2_9 D13 (.lst ((W ++ ([((((((("do " : String) : Str) ++ ((((("row " : String) : Str) ++ a) ++ ((" -> " : String) : Str)) ++ b)) ++ ((" then give " : String) : Str)) ++ a) ++ ((" -> " : String) : Str)) ++ b), (((((("do take " : String) : Str) ++ a) ++ ((" -> " : String) : Str)) ++ b) ++ ((" then join" : String) : Str))] : List Str)).map V.str)) = H2_10 at sS hD ⊢
    generalize W ++ ([((((((("do " : String) : Str) ++ ((((("row " : String) : Str) ++ a) ++ ((" -> " : String) : Str)) ++ b)) ++ ((" then give " : String) : Str)) ++ a) ++ ((" -> " : String) : Str)) ++ b), (((((("do take " : String) : Str) ++ a) ++ ((" -> " : String) : Str)) ++ b) ++ ((" then join" : String) : Str))] : List Str) = W at hW nW hD ⊢
    refine ⟨_, rfl, .inl ⟨rfl, _, SqL.of hD⟩, _, rfl, _, _, rfl, rfl, sum_ok (show (("do new " : String) : Str).length ≤ 7 by decide +kernel) la, _, _, rfl, rfl, sum_ok (len_app (show (("do new " : String) : Str).length ≤ 7 by decide +kernel) la) (show ((" then" : String) : Str).length ≤ 5 by decide +kernel), D13, _, _, rfl, rfl, hD, by rw [List.length_map, nW]; decide, ?_⟩
    rw [show W.map V.str ++ [V.str (((("do new " : String) : Str) ++ a) ++ ((" then" : String) : Str))] = (W ++ ([(((("do new " : String) : Str) ++ a) ++ ((" then" : String) : Str))] : List Str)).map V.str by rw [List.map_append]; rfl]
    have sS := Same.updN (o := .lst ((W ++ ([(((("do new " : String) : Str) ++ a) ++ ((" then" : String) : Str))] : List Str)).map V.str)) sS nD
    have hD := upd_same (H := H2_10) (a := D13) (o := .lst ((W ++ ([(((("do new " : String) : Str) ++ a) ++ ((" then" : String) : Str))] : List Str)).map V.str))
    have hW := mem_both hW (w2_7 ha hb hab)
    have nW : (W ++ ([(((("do new " : String) : Str) ++ a) ++ ((" then" : String) : Str))] : List Str)).length = 19 := by rw [List.length_append, nW]; rfl
    generalize upd H2_10 D13 (.lst ((W ++ ([(((("do new " : String) : Str) ++ a) ++ ((" then" : String) : Str))] : List Str)).map V.str)) = H2_11 at sS hD ⊢
    generalize W ++ ([(((("do new " : String) : Str) ++ a) ++ ((" then" : String) : Str))] : List Str) = W at hW nW hD ⊢
    refine ⟨_, rfl, _, rfl, _, _, rfl, rfl, sum_ok (show (("do new " : String) : Str).length ≤ 7 by decide +kernel) la, _, _, rfl, rfl, sum_ok (len_app (show (("do new " : String) : Str).length ≤ 7 by decide +kernel) la) (show ((" if" : String) : Str).length ≤ 3 by decide +kernel), _, rfl, _, _, rfl, rfl, sum_ok (show (("do new " : String) : Str).length ≤ 7 by decide +kernel) la, _, _, rfl, rfl, sum_ok (len_app (show (("do new " : String) : Str).length ≤ 7 by decide +kernel) la) (show ((" if other " : String) : Str).length ≤ 10 by decide +kernel), _, rfl, _, _, rfl, rfl, sum_ok (len_app (len_app (show (("do new " : String) : Str).length ≤ 7 by decide +kernel) la) (show ((" if other " : String) : Str).length ≤ 10 by decide +kernel)) la, _, _, rfl, rfl, sum_ok (len_app (len_app (len_app (show (("do new " : String) : Str).length ≤ 7 by decide +kernel) la) (show ((" if other " : String) : Str).length ≤ 10 by decide +kernel)) la) (show ((" < 1" : String) : Str).length ≤ 4 by decide +kernel), _, rfl, _, _, rfl, rfl, sum_ok (show (("do new " : String) : Str).length ≤ 7 by decide +kernel) la, _, _, rfl, rfl, sum_ok (len_app (show (("do new " : String) : Str).length ≤ 7 by decide +kernel) la) (show ((" and new " : String) : Str).length ≤ 9 by decide +kernel), _, rfl, _, _, rfl, rfl, sum_ok (len_app (len_app (show (("do new " : String) : Str).length ≤ 7 by decide +kernel) la) (show ((" and new " : String) : Str).length ≤ 9 by decide +kernel)) lb, by show 3 ≤ sizeLine; decide, fun l14 hl14 => ?_⟩
    have sS := sS.trans (Same.new (o := .lst [V.str (((("do new " : String) : Str) ++ a) ++ ((" if" : String) : Str)), V.str (((((("do new " : String) : Str) ++ a) ++ ((" if other " : String) : Str)) ++ a) ++ ((" < 1" : String) : Str)), V.str ((((("do new " : String) : Str) ++ a) ++ ((" and new " : String) : Str)) ++ b)]) hl14)
    have hD := Same.new (o := .lst [V.str (((("do new " : String) : Str) ++ a) ++ ((" if" : String) : Str)), V.str (((((("do new " : String) : Str) ++ a) ++ ((" if other " : String) : Str)) ++ a) ++ ((" < 1" : String) : Str)), V.str ((((("do new " : String) : Str) ++ a) ++ ((" and new " : String) : Str)) ++ b)]) hl14 _ _ hD
    have el := upd_same (H := H2_11) (a := l14) (o := .lst [V.str (((("do new " : String) : Str) ++ a) ++ ((" if" : String) : Str)), V.str (((((("do new " : String) : Str) ++ a) ++ ((" if other " : String) : Str)) ++ a) ++ ((" < 1" : String) : Str)), V.str ((((("do new " : String) : Str) ++ a) ++ ((" and new " : String) : Str)) ++ b)])
    generalize upd H2_11 l14 (.lst [V.str (((("do new " : String) : Str) ++ a) ++ ((" if" : String) : Str)), V.str (((((("do new " : String) : Str) ++ a) ++ ((" if other " : String) : Str)) ++ a) ++ ((" < 1" : String) : Str)), V.str ((((("do new " : String) : Str) ++ a) ++ ((" and new " : String) : Str)) ++ b)]) = H2_12 at sS hD el ⊢
    refine ⟨D13, l14, _, _, rfl, rfl, hD, el, by rw [List.length_map, nW]; show 19 + 3 ≤ sizeLine; decide, fun D14 hD14 => ?_⟩
    rw [show W.map V.str ++ [V.str (((("do new " : String) : Str) ++ a) ++ ((" if" : String) : Str)), V.str (((((("do new " : String) : Str) ++ a) ++ ((" if other " : String) : Str)) ++ a) ++ ((" < 1" : String) : Str)), V.str ((((("do new " : String) : Str) ++ a) ++ ((" and new " : String) : Str)) ++ b)] = (W ++ ([(((("do new " : String) : Str) ++ a) ++ ((" if" : String) : Str)), (((((("do new " : String) : Str) ++ a) ++ ((" if other " : String) : Str)) ++ a) ++ ((" < 1" : String) : Str)), ((((("do new " : String) : Str) ++ a) ++ ((" and new " : String) : Str)) ++ b)] : List Str)).map V.str by rw [List.map_append]; rfl]
    have nD := Same.noneN sS hD14
    have sS := sS.trans (Same.new (o := .lst ((W ++ ([(((("do new " : String) : Str) ++ a) ++ ((" if" : String) : Str)), (((((("do new " : String) : Str) ++ a) ++ ((" if other " : String) : Str)) ++ a) ++ ((" < 1" : String) : Str)), ((((("do new " : String) : Str) ++ a) ++ ((" and new " : String) : Str)) ++ b)] : List Str)).map V.str)) hD14)
    have hD := upd_same (H := H2_12) (a := D14) (o := .lst ((W ++ ([(((("do new " : String) : Str) ++ a) ++ ((" if" : String) : Str)), (((((("do new " : String) : Str) ++ a) ++ ((" if other " : String) : Str)) ++ a) ++ ((" < 1" : String) : Str)), ((((("do new " : String) : Str) ++ a) ++ ((" and new " : String) : Str)) ++ b)] : List Str)).map V.str))
    have hW := mem_both hW (w2_8 ha hb hab)
    have nW : (W ++ ([(((("do new " : String) : Str) ++ a) ++ ((" if" : String) : Str)), (((((("do new " : String) : Str) ++ a) ++ ((" if other " : String) : Str)) ++ a) ++ ((" < 1" : String) : Str)), ((((("do new " : String) : Str) ++ a) ++ ((" and new " : String) : Str)) ++ b)] : List Str)).length = 22 := by rw [List.length_append, nW]; rfl
    generalize upd H2_12 D14 (.lst ((W ++ ([(((("do new " : String) : Str) ++ a) ++ ((" if" : String) : Str)), (((((("do new " : String) : Str) ++ a) ++ ((" if other " : String) : Str)) ++ a) ++ ((" < 1" : String) : Str)), ((((("do new " : String) : Str) ++ a) ++ ((" and new " : String) : Str)) ++ b)] : List Str)).map V.str)) = H2_13 at sS hD ⊢
    generalize W ++ ([(((("do new " : String) : Str) ++ a) ++ ((" if" : String) : Str)), (((((("do new " : String) : Str) ++ a) ++ ((" if other " : String) : Str)) ++ a) ++ ((" < 1" : String) : Str)), ((((("do new " : String) : Str) ++ a) ++ ((" and new " : String) : Str)) ++ b)] : List Str) = W at hW nW hD ⊢
    refine ⟨_, rfl, _, rfl, _, _, rfl, rfl, sum_ok (show (("do new " : String) : Str).length ≤ 7 by decide +kernel) la, _, _, rfl, rfl, sum_ok (len_app (show (("do new " : String) : Str).length ≤ 7 by decide +kernel) la) (show ((" if " : String) : Str).length ≤ 4 by decide +kernel), _, rfl, _, _, rfl, rfl, sum_ok (len_app (len_app (show (("do new " : String) : Str).length ≤ 7 by decide +kernel) la) (show ((" if " : String) : Str).length ≤ 4 by decide +kernel)) la, _, _, rfl, rfl, sum_ok (len_app (len_app (len_app (show (("do new " : String) : Str).length ≤ 7 by decide +kernel) la) (show ((" if " : String) : Str).length ≤ 4 by decide +kernel)) la) (show ((" < 1 if " : String) : Str).length ≤ 8 by decide +kernel), _, rfl, _, _, rfl, rfl, sum_ok (len_app (len_app (len_app (len_app (show (("do new " : String) : Str).length ≤ 7 by decide +kernel) la) (show ((" if " : String) : Str).length ≤ 4 by decide +kernel)) la) (show ((" < 1 if " : String) : Str).length ≤ 8 by decide +kernel)) lb, _, _, rfl, rfl, sum_ok (len_app (len_app (len_app (len_app (len_app (show (("do new " : String) : Str).length ≤ 7 by decide +kernel) la) (show ((" if " : String) : Str).length ≤ 4 by decide +kernel)) la) (show ((" < 1 if " : String) : Str).length ≤ 8 by decide +kernel)) lb) (show ((" < 1" : String) : Str).length ≤ 4 by decide +kernel), ⟨_, rfl⟩, _, rfl, _, _, rfl, rfl, sum_ok (show (("new " : String) : Str).length ≤ 4 by decide +kernel) la, by show 1 ≤ sizeLine; decide, fun l15 hl15 => ?_⟩
    have sS := sS.trans (Same.new (o := .lst [.str ((("new " : String) : Str) ++ a)]) hl15)
    have hD := Same.new (o := .lst [.str ((("new " : String) : Str) ++ a)]) hl15 _ _ hD
    have el := upd_same (H := H2_13) (a := l15) (o := .lst [.str ((("new " : String) : Str) ++ a)])
    generalize upd H2_13 l15 (.lst [.str ((("new " : String) : Str) ++ a)]) = H2_14 at sS el hD ⊢
    refine ⟨l15, _, _, rfl, rfl, el, by decide, by decide, by show 1 * 5 ≤ sizeLine; decide, fun m15 hm15 => ?_⟩
    rw [show (List.replicate (Int.toNat 5) [V.str ((("new " : String) : Str) ++ a)]).flatten = ([.str ((("new " : String) : Str) ++ a), .str ((("new " : String) : Str) ++ a), .str ((("new " : String) : Str) ++ a), .str ((("new " : String) : Str) ++ a), .str ((("new " : String) : Str) ++ a)] : List V) from rfl]
    have sS := sS.trans (Same.new (o := .lst [.str ((("new " : String) : Str) ++ a), .str ((("new " : String) : Str) ++ a), .str ((("new " : String) : Str) ++ a), .str ((("new " : String) : Str) ++ a), .str ((("new " : String) : Str) ++ a)]) hm15)
    have hD := Same.new (o := .lst [.str ((("new " : String) : Str) ++ a), .str ((("new " : String) : Str) ++ a), .str ((("new " : String) : Str) ++ a), .str ((("new " : String) : Str) ++ a), .str ((("new " : String) : Str) ++ a)]) hm15 _ _ hD
    have el := upd_same (H := H2_14) (a := m15) (o := .lst [.str ((("new " : String) : Str) ++ a), .str ((("new " : String) : Str) ++ a), .str ((("new " : String) : Str) ++ a), .str ((("new " : String) : Str) ++ a), .str ((("new " : String) : Str) ++ a)])
    generalize upd H2_14 m15 (.lst [.str ((("new " : String) : Str) ++ a), .str ((("new " : String) : Str) ++ a), .str ((("new " : String) : Str) ++ a), .str ((("new " : String) : Str) ++ a), .str ((("new " : String) : Str) ++ a)]) = H2_15 at sS el hD ⊢
    have lj := five_len (sep := ((" then " : String) : Str)) (z := ((("new " : String) : Str) ++ a)) (n := 6) (len_app (show (("new " : String) : Str).length ≤ 4 by decide +kernel) la) (by decide +kernel) (by decide)
    have lj2 := five_sum (sep := ((" then " : String) : Str)) (z := ((("new " : String) : Str) ++ a)) (n := 6) (len_app (show (("new " : String) : Str).length ≤ 4 by decide +kernel) la) (by decide +kernel) (by decide)
    refine ⟨((" then " : String) : Str), m15, [((("new " : String) : Str) ++ a), ((("new " : String) : Str) ++ a), ((("new " : String) : Str) ++ a), ((("new " : String) : Str) ++ a), ((("new " : String) : Str) ++ a)], rfl, rfl, .inl (SqL.of el), lj2, _, _, rfl, rfl, sum_ok (show (("do " : String) : Str).length ≤ 3 by decide +kernel) lj, by show 2 ≤ sizeLine; decide, fun l16 hl16 => ?_⟩
    have sS := sS.trans (Same.new (o := .lst [V.str (((((((("do new " : String) : Str) ++ a) ++ ((" if " : String) : Str)) ++ a) ++ ((" < 1 if " : String) : Str)) ++ b) ++ ((" < 1" : String) : Str)), V.str ((("do " : String) : Str) ++ (Txt.join ((" then " : String) : Str) [((("new " : String) : Str) ++ a), ((("new " : String) : Str) ++ a), ((("new " : String) : Str) ++ a), ((("new " : String) : Str) ++ a), ((("new " : String) : Str) ++ a)]))]) hl16)
    have hD := Same.new (o := .lst [V.str (((((((("do new " : String) : Str) ++ a) ++ ((" if " : String) : Str)) ++ a) ++ ((" < 1 if " : String) : Str)) ++ b) ++ ((" < 1" : String) : Str)), V.str ((("do " : String) : Str) ++ (Txt.join ((" then " : String) : Str) [((("new " : String) : Str) ++ a), ((("new " : String) : Str) ++ a), ((("new " : String) : Str) ++ a), ((("new " : String) : Str) ++ a), ((("new " : String) : Str) ++ a)]))]) hl16 _ _ hD
    have el := upd_same (H := H2_15) (a := l16) (o := .lst [V.str (((((((("do new " : String) : Str) ++ a) ++ ((" if " : String) : Str)) ++ a) ++ ((" < 1 if " : String) : Str)) ++ b) ++ ((" < 1" : String) : Str)), V.str ((("do " : String) : Str) ++ (Txt.join ((" then " : String) : Str) [((("new " : String) : Str) ++ a), ((("new " : String) : Str) ++ a), ((("new " : String) : Str) ++ a), ((("new " : String) : Str) ++ a), ((("new " : String) : Str) ++ a)]))])
    generalize upd H2_15 l16 (.lst [V.str (((((((("do new " : String) : Str) ++ a) ++ ((" if " : String) : Str)) ++ a) ++ ((" < 1 if " : String) : Str)) ++ b) ++ ((" < 1" : String) : Str)), V.str ((("do " : String) : Str) ++ (Txt.join ((" then " : String) : Str) [((("new " : String) : Str) ++ a), ((("new " : String) : Str) ++ a), ((("new " : String) : Str) ++ a), ((("new " : String) : Str) ++ a), ((("new " : String) : Str) ++ a)]))]) = H2_16 at sS hD el ⊢
    refine ⟨D14, l16, _, _, rfl, rfl, hD, el, by rw [List.length_map, nW]; show 22 + 2 ≤ sizeLine; decide, fun D16 hD16 => ?_⟩
    rw [show W.map V.str ++ [V.str (((((((("do new " : String) : Str) ++ a) ++ ((" if " : String) : Str)) ++ a) ++ ((" < 1 if " : String) : Str)) ++ b) ++ ((" < 1" : String) : Str)), V.str ((("do " : String) : Str) ++ (Txt.join ((" then " : String) : Str) [((("new " : String) : Str) ++ a), ((("new " : String) : Str) ++ a), ((("new " : String) : Str) ++ a), ((("new " : String) : Str) ++ a), ((("new " : String) : Str) ++ a)]))] = (W ++ ([(((((((("do new " : String) : Str) ++ a) ++ ((" if " : String) : Str)) ++ a) ++ ((" < 1 if " : String) : Str)) ++ b) ++ ((" < 1" : String) : Str)), ((("do " : String) : Str) ++ (Txt.join ((" then " : String) : Str) [((("new " : String) : Str) ++ a), ((("new " : String) : Str) ++ a), ((("new " : String) : Str) ++ a), ((("new " : String) : Str) ++ a), ((("new " : String) : Str) ++ a)]))] : List Str)).map V.str by rw [List.map_append]; rfl]
    have nD := Same.noneN sS hD16
    have sS := sS.trans (Same.new (o := .lst ((W ++ ([(((((((("do new " : String) : Str) ++ a) ++ ((" if " : String) : Str)) ++ a) ++ ((" < 1 if " : String) : Str)) ++ b) ++ ((" < 1" : String) : Str)), ((("do " : String) : Str) ++ (Txt.join ((" then " : String) : Str) [((("new " : String) : Str) ++ a), ((("new " : String) : Str) ++ a), ((("new " : String) : Str) ++ a), ((("new " : String) : Str) ++ a), ((("new " : String) : Str) ++ a)]))] : List Str)).map V.str)) hD16)
    have hD := upd_same (H := H2_16) (a := D16) (o := .lst ((W ++ ([(((((((("do new " : String) : Str) ++ a) ++ ((" if " : String) : Str)) ++ a) ++ ((" < 1 if " : String) : Str)) ++ b) ++ ((" < 1" : String) : Str)), ((("do " : String) : Str) ++ (Txt.join ((" then " : String) : Str) [((("new " : String) : Str) ++ a), ((("new " : String) : Str) ++ a), ((("new " : String) : Str) ++ a), ((("new " : String) : Str) ++ a), ((("new " : String) : Str) ++ a)]))] : List Str)).map V.str))
    have hW := mem_both hW (w2_9 ha hb hab)
    have nW : (W ++ ([(((((((("do new " : String) : Str) ++ a) ++ ((" if " : String) : Str)) ++ a) ++ ((" < 1 if " : String) : Str)) ++ b) ++ ((" < 1" : String) : Str)), ((("do " : String) : Str) ++ (Txt.join ((" then " : String) : Str) [((("new " : String) : Str) ++ a), ((("new " : String) : Str) ++ a), ((("new " : String) : Str) ++ a), ((("new " : String) : Str) ++ a), ((("new " : String) : Str) ++ a)]))] : List Str)).length = 24 := by rw [List.length_append, nW]; rfl
    generalize upd H2_16 D16 (.lst ((W ++ ([(((((((("do new " : String) : Str) ++ a) ++ ((" if " : String) : Str)) ++ a) ++ ((" < 1 if " : String) : Str)) ++ b) ++ ((" < 1" : String) : Str)), ((("do " : String) : Str) ++ (Txt.join ((" then " : String) : Str) [((("new " : String) : Str) ++ a), ((("new " : String) : Str) ++ a), ((("new " : String) : Str) ++ a), ((("new " : String) : Str) ++ a), ((("new " : String) : Str) ++ a)]))] : List Str)).map V.str)) = H2_17 at sS hD ⊢
    generalize W ++ ([(((((((("do new " : String) : Str) ++ a) ++ ((" if " : String) : Str)) ++ a) ++ ((" < 1 if " : String) : Str)) ++ b) ++ ((" < 1" : String) : Str)), ((("do " : String) : Str) ++ (Txt.join ((" then " : String) : Str) [((("new " : String) : Str) ++ a), ((("new " : String) : Str) ++ a), ((("new " : String) : Str) ++ a), ((("new " : String) : Str) ++ a), ((("new " : String) : Str) ++ a)]))] : List Str) = W at hW nW hD ⊢
    refine ⟨_, rfl, _, rfl, _, _, rfl, rfl, sum_ok (show (("do new " : String) : Str).length ≤ 7 by decide +kernel) la, _, _, rfl, rfl, sum_ok (len_app (show (("do new " : String) : Str).length ≤ 7 by decide +kernel) la) (show ((" if " : String) : Str).length ≤ 4 by decide +kernel), ⟨_, rfl⟩, _, rfl, _, _, rfl, rfl, sum_ok lb (show ((" < 1" : String) : Str).length ≤ 4 by decide +kernel), by show 1 ≤ sizeLine; decide, fun l17 hl17 => ?_⟩
    have sS := sS.trans (Same.new (o := .lst [.str (b ++ ((" < 1" : String) : Str))]) hl17)
    have hD := Same.new (o := .lst [.str (b ++ ((" < 1" : String) : Str))]) hl17 _ _ hD
    have el := upd_same (H := H2_17) (a := l17) (o := .lst [.str (b ++ ((" < 1" : String) : Str))])
    generalize upd H2_17 l17 (.lst [.str (b ++ ((" < 1" : String) : Str))]) = H2_18 at sS el hD ⊢
    refine ⟨l17, _, _, rfl, rfl, el, by decide, by decide, by show 1 * 5 ≤ sizeLine; decide, fun m17 hm17 => ?_⟩
    rw [show (List.replicate (Int.toNat 5) [V.str (b ++ ((" < 1" : String) : Str))]).flatten = ([.str (b ++ ((" < 1" : String) : Str)), .str (b ++ ((" < 1" : String) : Str)), .str (b ++ ((" < 1" : String) : Str)), .str (b ++ ((" < 1" : String) : Str)), .str (b ++ ((" < 1" : String) : Str))] : List V) from rfl]
    have sS := sS.trans (Same.new (o := .lst [.str (b ++ ((" < 1" : String) : Str)), .str (b ++ ((" < 1" : String) : Str)), .str (b ++ ((" < 1" : String) : Str)), .str (b ++ ((" < 1" : String) : Str)), .str (b ++ ((" < 1" : String) : Str))]) hm17)
    have hD := Same.new (o := .lst [.str (b ++ ((" < 1" : String) : Str)), .str (b ++ ((" < 1" : String) : Str)), .str (b ++ ((" < 1" : String) : Str)), .str (b ++ ((" < 1" : String) : Str)), .str (b ++ ((" < 1" : String) : Str))]) hm17 _ _ hD
    have el := upd_same (H := H2_18) (a := m17) (o := .lst [.str (b ++ ((" < 1" : String) : Str)), .str (b ++ ((" < 1" : String) : Str)), .str (b ++ ((" < 1" : String) : Str)), .str (b ++ ((" < 1" : String) : Str)), .str (b ++ ((" < 1" : String) : Str))])
    generalize upd H2_18 m17 (.lst [.str (b ++ ((" < 1" : String) : Str)), .str (b ++ ((" < 1" : String) : Str)), .str (b ++ ((" < 1" : String) : Str)), .str (b ++ ((" < 1" : String) : Str)), .str (b ++ ((" < 1" : String) : Str))]) = H2_19 at sS el hD ⊢
    have lj := five_len (sep := ((" and " : String) : Str)) (z := (b ++ ((" < 1" : String) : Str))) (n := 5) (len_app lb (show ((" < 1" : String) : Str).length ≤ 4 by decide +kernel)) (by decide +kernel) (by decide)
    have lj2 := five_sum (sep := ((" and " : String) : Str)) (z := (b ++ ((" < 1" : String) : Str))) (n := 5) (len_app lb (show ((" < 1" : String) : Str).length ≤ 4 by decide +kernel)) (by decide +kernel) (by decide)
    refine ⟨((" and " : String) : Str), m17, [(b ++ ((" < 1" : String) : Str)), (b ++ ((" < 1" : String) : Str)), (b ++ ((" < 1" : String) : Str)), (b ++ ((" < 1" : String) : Str)), (b ++ ((" < 1" : String) : Str))], rfl, rfl, .inl (SqL.of el), lj2, _, _, rfl, rfl, sum_ok (len_app (len_app (show (("do new " : String) : Str).length ≤ 7 by decide +kernel) la) (show ((" if " : String) : Str).length ≤ 4 by decide +kernel)) lj, _, rfl, _, _, rfl, rfl, sum_ok (show (("do join if " : String) : Str).length ≤ 11 by decide +kernel) la, _, _, rfl, rfl, sum_ok (len_app (show (("do join if " : String) : Str).length ≤ 11 by decide +kernel) la) (show ((" = 1 then new " : String) : Str).length ≤ 14 by decide +kernel), _, rfl, _, _, rfl, rfl, sum_ok (len_app (len_app (show (("do join if " : String) : Str).length ≤ 11 by decide +kernel) la) (show ((" = 1 then new " : String) : Str).length ≤ 14 by decide +kernel)) lb, by show 2 ≤ sizeLine; decide, fun l18 hl18 => ?_⟩
    have sS := sS.trans (Same.new (o := .lst [V.str ((((("do new " : String) : Str) ++ a) ++ ((" if " : String) : Str)) ++ (Txt.join ((" and " : String) : Str) [(b ++ ((" < 1" : String) : Str)), (b ++ ((" < 1" : String) : Str)), (b ++ ((" < 1" : String) : Str)), (b ++ ((" < 1" : String) : Str)), (b ++ ((" < 1" : String) : Str))])), V.str ((((("do join if " : String) : Str) ++ a) ++ ((" = 1 then new " : String) : Str)) ++ b)]) hl18)
    have hD := Same.new (o := .lst [V.str ((((("do new " : String) : Str) ++ a) ++ ((" if " : String) : Str)) ++ (Txt.join ((" and " : String) : Str) [(b ++ ((" < 1" : String) : Str)), (b ++ ((" < 1" : String) : Str)), (b ++ ((" < 1" : String) : Str)), (b ++ ((" < 1" : String) : Str)), (b ++ ((" < 1" : String) : Str))])), V.str ((((("do join if " : String) : Str) ++ a) ++ ((" = 1 then new " : String) : Str)) ++ b)]) hl18 _ _ hD
    have el := upd_same (H := H2_19) (a := l18) (o := .lst [V.str ((((("do new " : String) : Str) ++ a) ++ ((" if " : String) : Str)) ++ (Txt.join ((" and " : String) : Str) [(b ++ ((" < 1" : String) : Str)), (b ++ ((" < 1" : String) : Str)), (b ++ ((" < 1" : String) : Str)), (b ++ ((" < 1" : String) : Str)), (b ++ ((" < 1" : String) : Str))])), V.str ((((("do join if " : String) : Str) ++ a) ++ ((" = 1 then new " : String) : Str)) ++ b)])
    generalize upd H2_19 l18 (.lst [V.str ((((("do new " : String) : Str) ++ a) ++ ((" if " : String) : Str)) ++ (Txt.join ((" and " : String) : Str) [(b ++ ((" < 1" : String) : Str)), (b ++ ((" < 1" : String) : Str)), (b ++ ((" < 1" : String) : Str)), (b ++ ((" < 1" : String) : Str)), (b ++ ((" < 1" : String) : Str))])), V.str ((((("do join if " : String) : Str) ++ a) ++ ((" = 1 then new " : String) : Str)) ++ b)]) = H2_20 at sS hD el ⊢
    refine ⟨D16, l18, _, _, rfl, rfl, hD, el, by rw [List.length_map, nW]; show 24 + 2 ≤ sizeLine; decide, fun D18 hD18 => ?_⟩
    rw [show W.map V.str ++ [V.str ((((("do new " : String) : Str) ++ a) ++ ((" if " : String) : Str)) ++ (Txt.join ((" and " : String) : Str) [(b ++ ((" < 1" : String) : Str)), (b ++ ((" < 1" : String) : Str)), (b ++ ((" < 1" : String) : Str)), (b ++ ((" < 1" : String) : Str)), (b ++ ((" < 1" : String) : Str))])), V.str ((((("do join if " : String) : Str) ++ a) ++ ((" = 1 then new " : String) : Str)) ++ b)] = (W ++ ([((((("do new " : String) : Str) ++ a) ++ ((" if " : String) : Str)) ++ (Txt.join ((" and " : String) : Str) [(b ++ ((" < 1" : String) : Str)), (b ++ ((" < 1" : String) : Str)), (b ++ ((" < 1" : String) : Str)), (b ++ ((" < 1" : String) : Str)), (b ++ ((" < 1" : String) : Str))])), ((((("do join if " : String) : Str) ++ a) ++ ((" = 1 then new " : String) : Str)) ++ b)] : List Str)).map V.str by rw [List.map_append]; rfl]
    have nD := Same.noneN sS hD18
    have sS := sS.trans (Same.new (o := .lst ((W ++ ([((((("do new " : String) : Str) ++ a) ++ ((" if " : String) : Str)) ++ (Txt.join ((" and " : String) : Str) [(b ++ ((" < 1" : String) : Str)), (b ++ ((" < 1" : String) : Str)), (b ++ ((" < 1" : String) : Str)), (b ++ ((" < 1" : String) : Str)), (b ++ ((" < 1" : String) : Str))])), ((((("do join if " : String) : Str) ++ a) ++ ((" = 1 then new " : String) : Str)) ++ b)] : List Str)).map V.str)) hD18)
    have hD := upd_same (H := H2_20) (a := D18) (o := .lst ((W ++ ([((((("do new " : String) : Str) ++ a) ++ ((" if " : String) : Str)) ++ (Txt.join ((" and " : String) : Str) [(b ++ ((" < 1" : String) : Str)), (b ++ ((" < 1" : String) : Str)), (b ++ ((" < 1" : String) : Str)), (b ++ ((" < 1" : String) : Str)), (b ++ ((" < 1" : String) : Str))])), ((((("do join if " : String) : Str) ++ a) ++ ((" = 1 then new " : String) : Str)) ++ b)] : List Str)).map V.str))
    have hW := mem_both hW (w2_10 ha hb hab)
    have nW : (W ++ ([((((("do new " : String) : Str) ++ a) ++ ((" if " : String) : Str)) ++ (Txt.join ((" and " : String) : Str) [(b ++ ((" < 1" : String) : Str)), (b ++ ((" < 1" : String) : Str)), (b ++ ((" < 1" : String) : Str)), (b ++ ((" < 1" : String) : Str)), (b ++ ((" < 1" : String) : Str))])), ((((("do join if " : String) : Str) ++ a) ++ ((" = 1 then new " : String) : Str)) ++ b)] : List Str)).length = 26 := by rw [List.length_append, nW]; rfl
    generalize upd H2_20 D18 (.lst ((W ++ ([((((("do new " : String) : Str) ++ a) ++ ((" if " : String) : Str)) ++ (Txt.join ((" and " : String) : Str) [(b ++ ((" < 1" : String) : Str)), (b ++ ((" < 1" : String) : Str)), (b ++ ((" < 1" : String) : Str)), (b ++ ((" < 1" : String) : Str)), (b ++ ((" < 1" : String) : Str))])), ((((("do join if " : String) : Str) ++ a) ++ ((" = 1 then new " : String) : Str)) ++ b)] : List Str)).map V.str)) = H2_21 at sS hD ⊢
    generalize W ++ ([((((("do new " : String) : Str) ++ a) ++ ((" if " : String) : Str)) ++ (Txt.join ((" and " : String) : Str) [(b ++ ((" < 1" : String) : Str)), (b ++ ((" < 1" : String) : Str)), (b ++ ((" < 1" : String) : Str)), (b ++ ((" < 1" : String) : Str)), (b ++ ((" < 1" : String) : Str))])), ((((("do join if " : String) : Str) ++ a) ++ ((" = 1 then new " : String) : Str)) ++ b)] : List Str) = W at hW nW hD ⊢
    refine ⟨_, rfl, _, rfl, _, _, rfl, rfl, sum_ok (show (("new " : String) : Str).length ≤ 4 by decide +kernel) la, _, rfl, _, _, rfl, rfl, sum_ok (show (("do -> " : String) : Str).length ≤ 6 by decide +kernel) la, _, rfl, _, _, rfl, rfl, sum_ok (show (("do row -> " : String) : Str).length ≤ 10 by decide +kernel) la, _, rfl, _, _, rfl, rfl, sum_ok (show (("do  new " : String) : Str).length ≤ 8 by decide +kernel) la, _, rfl, _, _, rfl, rfl, sum_ok (show (("do new " : String) : Str).length ≤ 7 by decide +kernel) la, _, _, rfl, rfl, sum_ok (len_app (show (("do new " : String) : Str).length ≤ 7 by decide +kernel) la) (show ((" " : String) : Str).length ≤ 1 by decide +kernel), by show 5 ≤ sizeLine; decide, fun l19 hl19 => ?_⟩
    have sS := sS.trans (Same.new (o := .lst [V.str ((("new " : String) : Str) ++ a), V.str ((("do -> " : String) : Str) ++ a), V.str ((("do row -> " : String) : Str) ++ a), V.str ((("do  new " : String) : Str) ++ a), V.str (((("do new " : String) : Str) ++ a) ++ ((" " : String) : Str))]) hl19)
    have hD := Same.new (o := .lst [V.str ((("new " : String) : Str) ++ a), V.str ((("do -> " : String) : Str) ++ a), V.str ((("do row -> " : String) : Str) ++ a), V.str ((("do  new " : String) : Str) ++ a), V.str (((("do new " : String) : Str) ++ a) ++ ((" " : String) : Str))]) hl19 _ _ hD
    have el := upd_same (H := H2_21) (a := l19) (o := .lst [V.str ((("new " : String) : Str) ++ a), V.str ((("do -> " : String) : Str) ++ a), V.str ((("do row -> " : String) : Str) ++ a), V.str ((("do  new " : String) : Str) ++ a), V.str (((("do new " : String) : Str) ++ a) ++ ((" " : String) : Str))])
    generalize upd H2_21 l19 (.lst [V.str ((("new " : String) : Str) ++ a), V.str ((("do -> " : String) : Str) ++ a), V.str ((("do row -> " : String) : Str) ++ a), V.str ((("do  new " : String) : Str) ++ a), V.str (((("do new " : String) : Str) ++ a) ++ ((" " : String) : Str))]) = H2_22 at sS hD el ⊢
    refine ⟨D18, l19, _, _, rfl, rfl, hD, el, by rw [List.length_map, nW]; show 26 + 5 ≤ sizeLine; decide, fun D19 hD19 => ?_⟩
    rw [show W.map V.str ++ [V.str ((("new " : String) : Str) ++ a), V.str ((("do -> " : String) : Str) ++ a), V.str ((("do row -> " : String) : Str) ++ a), V.str ((("do  new " : String) : Str) ++ a), V.str (((("do new " : String) : Str) ++ a) ++ ((" " : String) : Str))] = (W ++ ([((("new " : String) : Str) ++ a), ((("do -> " : String) : Str) ++ a), ((("do row -> " : String) : Str) ++ a), ((("do  new " : String) : Str) ++ a), (((("do new " : String) : Str) ++ a) ++ ((" " : String) : Str))] : List Str)).map V.str by rw [List.map_append]; rfl]
    have nD := Same.noneN sS hD19
    have sS := sS.trans (Same.new (o := .lst ((W ++ ([((("new " : String) : Str) ++ a), ((("do -> " : String) : Str) ++ a), ((("do row -> " : String) : Str) ++ a), ((("do  new " : String) : Str) ++ a), (((("do new " : String) : Str) ++ a) ++ ((" " : String) : Str))] : List Str)).map V.str)) hD19)
    have hD := upd_same (H := H2_22) (a := D19) (o := .lst ((W ++ ([((("new " : String) : Str) ++ a), ((("do -> " : String) : Str) ++ a), ((("do row -> " : String) : Str) ++ a), ((("do  new " : String) : Str) ++ a), (((("do new " : String) : Str) ++ a) ++ ((" " : String) : Str))] : List Str)).map V.str))
    have hW := mem_both hW (w2_11 ha hb hab)
    have nW : (W ++ ([((("new " : String) : Str) ++ a), ((("do -> " : String) : Str) ++ a), ((("do row -> " : String) : Str) ++ a), ((("do  new " : String) : Str) ++ a), (((("do new " : String) : Str) ++ a) ++ ((" " : String) : Str))] : List Str)).length = 31 := by rw [List.length_append, nW]; rfl
    generalize upd H2_22 D19 (.lst ((W ++ ([((("new " : String) : Str) ++ a), ((("do -> " : String) : Str) ++ a), ((("do row -> " : String) : Str) ++ a), ((("do  new " : String) : Str) ++ a), (((("do new " : String) : Str) ++ a) ++ ((" " : String) : Str))] : List Str)).map V.str)) = H2_23 at sS hD ⊢
    generalize W ++ ([((("new " : String) : Str) ++ a), ((("do -> " : String) : Str) ++ a), ((("do row -> " : String) : Str) ++ a), ((("do  new " : String) : Str) ++ a), (((("do new " : String) : Str) ++ a) ++ ((" " : String) : Str))] : List Str) = W at hW nW hD ⊢
    refine ⟨_, rfl, _, rfl, _, _, rfl, rfl, sum_ok (show (("do join if other row " : String) : Str).length ≤ 21 by decide +kernel) la, _, rfl, _, _, rfl, rfl, sum_ok (show (("do join if other other " : String) : Str).length ≤ 23 by decide +kernel) la, _, _, rfl, rfl, sum_ok (len_app (show (("do join if other other " : String) : Str).length ≤ 23 by decide +kernel) la) (show ((" < 1" : String) : Str).length ≤ 4 by decide +kernel), by show 2 ≤ sizeLine; decide, fun l20 hl20 => ?_⟩
    have sS := sS.trans (Same.new (o := .lst [V.str ((("do join if other row " : String) : Str) ++ a), V.str (((("do join if other other " : String) : Str) ++ a) ++ ((" < 1" : String) : Str))]) hl20)
    have hD := Same.new (o := .lst [V.str ((("do join if other row " : String) : Str) ++ a), V.str (((("do join if other other " : String) : Str) ++ a) ++ ((" < 1" : String) : Str))]) hl20 _ _ hD
    have el := upd_same (H := H2_23) (a := l20) (o := .lst [V.str ((("do join if other row " : String) : Str) ++ a), V.str (((("do join if other other " : String) : Str) ++ a) ++ ((" < 1" : String) : Str))])
    generalize upd H2_23 l20 (.lst [V.str ((("do join if other row " : String) : Str) ++ a), V.str (((("do join if other other " : String) : Str) ++ a) ++ ((" < 1" : String) : Str))]) = H2_24 at sS hD el ⊢
    refine ⟨D19, l20, _, _, rfl, rfl, hD, el, by rw [List.length_map, nW]; show 31 + 2 ≤ sizeLine; decide, fun D20 hD20 => ?_⟩
    rw [show W.map V.str ++ [V.str ((("do join if other row " : String) : Str) ++ a), V.str (((("do join if other other " : String) : Str) ++ a) ++ ((" < 1" : String) : Str))] = (W ++ ([((("do join if other row " : String) : Str) ++ a), (((("do join if other other " : String) : Str) ++ a) ++ ((" < 1" : String) : Str))] : List Str)).map V.str by rw [List.map_append]; rfl]
    have nD := Same.noneN sS hD20
    have sS := sS.trans (Same.new (o := .lst ((W ++ ([((("do join if other row " : String) : Str) ++ a), (((("do join if other other " : String) : Str) ++ a) ++ ((" < 1" : String) : Str))] : List Str)).map V.str)) hD20)
    have hD := upd_same (H := H2_24) (a := D20) (o := .lst ((W ++ ([((("do join if other row " : String) : Str) ++ a), (((("do join if other other " : String) : Str) ++ a) ++ ((" < 1" : String) : Str))] : List Str)).map V.str))
    have hW := mem_both hW (w2_12 ha hb hab)
    have nW : (W ++ ([((("do join if other row " : String) : Str) ++ a), (((("do join if other other " : String) : Str) ++ a) ++ ((" < 1" : String) : Str))] : List Str)).length = 33 := by rw [List.length_append, nW]; rfl
    generalize upd H2_24 D20 (.lst ((W ++ ([((("do join if other row " : String) : Str) ++ a), (((("do join if other other " : String) : Str) ++ a) ++ ((" < 1" : String) : Str))] : List Str)).map V.str)) = H2_25 at sS hD ⊢
    generalize W ++ ([((("do join if other row " : String) : Str) ++ a), (((("do join if other other " : String) : Str) ++ a) ++ ((" < 1" : String) : Str))] : List Str) = W at hW nW hD ⊢
    refine ⟨_, rfl, _, rfl, _, _, rfl, rfl, sum_ok (show (("do one gone -> " : String) : Str).length ≤ 15 by decide +kernel) la, _, rfl, _, _, rfl, rfl, sum_ok (show (("do give " : String) : Str).length ≤ 8 by decide +kernel) la, _, _, rfl, rfl, sum_ok (len_app (show (("do give " : String) : Str).length ≤ 8 by decide +kernel) la) (show ((" -> " : String) : Str).length ≤ 4 by decide +kernel), _, rfl, _, _, rfl, rfl, sum_ok (len_app (len_app (show (("do give " : String) : Str).length ≤ 8 by decide +kernel) la) (show ((" -> " : String) : Str).length ≤ 4 by decide +kernel)) la, _, _, rfl, rfl, sum_ok (len_app (len_app (len_app (show (("do give " : String) : Str).length ≤ 8 by decide +kernel) la) (show ((" -> " : String) : Str).length ≤ 4 by decide +kernel)) la) (show ((" then take " : String) : Str).length ≤ 11 by decide +kernel), _, rfl, _, _, rfl, rfl, sum_ok (len_app (len_app (len_app (len_app (show (("do give " : String) : Str).length ≤ 8 by decide +kernel) la) (show ((" -> " : String) : Str).length ≤ 4 by decide +kernel)) la) (show ((" then take " : String) : Str).length ≤ 11 by decide +kernel)) la, _, _, rfl, rfl, sum_ok (len_app (len_app (len_app (len_app (len_app (show (("do give " : String) : Str).length ≤ 8 by decide +kernel) la) (show ((" -> " : String) : Str).length ≤ 4 by decide +kernel)) la) (show ((" then take " : String) : Str).length ≤ 11 by decide +kernel)) la) (show ((" -> " : String) : Str).length ≤ 4 by decide +kernel), _, rfl, _, _, rfl, rfl, sum_ok (len_app (len_app (len_app (len_app (len_app (len_app (show (("do give " : String) : Str).length ≤ 8 by decide +kernel) la) (show ((" -> " : String) : Str).length ≤ 4 by decide +kernel)) la) (show ((" then take " : String) : Str).length ≤ 11 by decide +kernel)) la) (show ((" -> " : String) : Str).length ≤ 4 by decide +kernel)) lb, by show 2 ≤ sizeLine; decide, fun l21 hl21 => ?_⟩
    have sS := sS.trans (Same.new (o := .lst [V.str ((("do one gone -> " : String) : Str) ++ a), V.str ((((((((("do give " : String) : Str) ++ a) ++ ((" -> " : String) : Str)) ++ a) ++ ((" then take " : String) : Str)) ++ a) ++ ((" -> " : String) : Str)) ++ b)]) hl21)
    have hD := Same.new (o := .lst [V.str ((("do one gone -> " : String) : Str) ++ a), V.str ((((((((("do give " : String) : Str) ++ a) ++ ((" -> " : String) : Str)) ++ a) ++ ((" then take " : String) : Str)) ++ a) ++ ((" -> " : String) : Str)) ++ b)]) hl21 _ _ hD
    have el := upd_same (H := H2_25) (a := l21) (o := .lst [V.str ((("do one gone -> " : String) : Str) ++ a), V.str ((((((((("do give " : String) : Str) ++ a) ++ ((" -> " : String) : Str)) ++ a) ++ ((" then take " : String) : Str)) ++ a) ++ ((" -> " : String) : Str)) ++ b)])
    generalize upd H2_25 l21 (.lst [V.str ((("do one gone -> " : String) : Str) ++ a), V.str ((((((((("do give " : String) : Str) ++ a) ++ ((" -> " : String) : Str)) ++ a) ++ ((" then take " : String) : Str)) ++ a) ++ ((" -> " : String) : Str)) ++ b)]) = H2_26 at sS hD el ⊢
    refine ⟨D20, l21, _, _, rfl, rfl, hD, el, by rw [List.length_map, nW]; show 33 + 2 ≤ sizeLine; decide, fun D21 hD21 => ?_⟩
    rw [show W.map V.str ++ [V.str ((("do one gone -> " : String) : Str) ++ a), V.str ((((((((("do give " : String) : Str) ++ a) ++ ((" -> " : String) : Str)) ++ a) ++ ((" then take " : String) : Str)) ++ a) ++ ((" -> " : String) : Str)) ++ b)] = (W ++ ([((("do one gone -> " : String) : Str) ++ a), ((((((((("do give " : String) : Str) ++ a) ++ ((" -> " : String) : Str)) ++ a) ++ ((" then take " : String) : Str)) ++ a) ++ ((" -> " : String) : Str)) ++ b)] : List Str)).map V.str by rw [List.map_append]; rfl]
    exact k D21 _ _ (Same.noneN sS hD21) (sS.trans (Same.new hD21)) upd_same (mem_both hW (w2_13 ha hb hab)) (by rw [List.length_append, nW]; rfl)
end
end Dr

set_option Elab.async false
set_option linter.all false
set_option maxRecDepth 100000
set_option maxHeartbeats 8000000
set_option pp.maxSteps 500
/-! Doors refused: each line by itself. -/
namespace Dr
open PySem L2 Cs
section
variable {P : Program} {w : World} {K : PySem.W.Frag} {mg : Str → Option Value} {base : Heap}
theorem ok_each {f fX fI fAt B C : Addr} {fd fdX fdAt : FuncData} (F : Fun K "_law_each" "_law_each" s_l_each f fd) (g : Bi mg) (mDo : mg "Door" = some (.ref C)) (XB : XDef P w K mg base "BadDoor" B fX "at" ["self", "at"] fdX) (XF : XfC K B) (hno : PySem.W.findIn K (.ref B) "at" = some none)
    (MK : Mk K C fI) (IK : FnR P w K mg base (L2.CX P w) 8 fI (spDoorX K B C)) (FAt : Def P w K mg base CX0 11 "_law_at" ["_law_name", "_law_lines_here"] (spLAt K) fAt fdAt) : FnOk P w K mg base CX0 12 f fd ["_law_name", "_law_lines_here"] (spLAt K) := by
  obtain ⟨GAt, mAt, _, bAt⟩ := id FAt
  refine F.ok sc_l_each (fun vs H Q E h => ?_) (fun cdv A outer s H vs Q E hr h => ?_)
  · obtain ⟨_, _, _, _, _, rfl, _⟩ := h
    rfl
  · obtain ⟨a, nv, b, xs, os, rfl, ha, hxl, hnv, hls, k⟩ := h
    have hrI : Room 9 _ := hr.mono (by decide)
    have hrAt : Room 11 _ := hr
    refine ⟨_, (pss_cons (ps_try_as (i := 2) (tb := fun W => (tIfS (tTest (tOp rEq (tCB (fun xs H Q => ∃ x n, xs = [x] ∧ LenV K x H n ∧ Q (.int n) H) (tCons (tVar 1) tNil)) (tC (.int 1)))) (tDrop (tMakeRS C (spDoorX K B C) (WE W) (tCons (tVar 0) (tCons (tOp (rIxL K) (tVar 1) (tC (.int 0))) tNil)))) (tIfS (tTest (tOp rEq (tCB (fun xs H Q => ∃ x n, xs = [x] ∧ LenV K x H n ∧ Q (.int n) H) (tCons (tVar 1) tNil)) (tC (.int 2)))) (tDrop (tMakeRS C (spDoorX K B C) (WE W) (tCons (tVar 0) (tCons (tOp (rIxL K) (tVar 1) (tC (.int 0))) (tCons (tOp (rIxL K) (tVar 1) (tC (.int 1))) tNil))))) (tIfS (tTest (tOp rEq (tCB (fun xs H Q => ∃ x n, xs = [x] ∧ LenV K x H n ∧ Q (.int n) H) (tCons (tVar 1) tNil)) (tC (.int 3)))) (tDrop (tMakeRS C (spDoorX K B C) (WE W) (tCons (tVar 0) (tCons (tOp (rIxL K) (tVar 1) (tC (.int 0))) (tCons (tOp (rIxL K) (tVar 1) (tC (.int 1))) (tCons (tOp (rIxL K) (tVar 1) (tC (.int 2))) tNil)))))) (tRet (tCall (spLAt K) [] E0 (tCons (tVar 0) (tCons (tVar 1) tNil)))))))) rfl rfl sc_l_each.nd rfl rfl ⟨rfl, by decide, Or.inl XB.mg_⟩ takes0
          (fun W pn xe tk _ => (pss_one (ps_if (pt_cmpR op_eq (pe_callB call_len (by rfl) g.len PySem.boot_len (pa_cons (pv 1) pa_nil)) pe_int (nomark _)) (pss_one (ps_expr (pe_makeRS MK IK hrI rfl mDo (fun σ => passAt tk σ) (pa_cons (pv 0) (pa_cons (pe_ix ix_list (pv 1) pe_int (fun _ _ => rfl)) pa_nil))))) (pss_one (ps_if (pt_cmpR op_eq (pe_callB call_len (by rfl) g.len PySem.boot_len (pa_cons (pv 1) pa_nil)) pe_int (nomark _)) (pss_one (ps_expr (pe_makeRS MK IK hrI rfl mDo (fun σ => passAt tk σ) (pa_cons (pv 0) (pa_cons (pe_ix ix_list (pv 1) pe_int (fun _ _ => rfl)) (pa_cons (pe_ix ix_list (pv 1) pe_int (fun _ _ => rfl)) pa_nil)))))) (pss_one (ps_if (pt_cmpR op_eq (pe_callB call_len (by rfl) g.len PySem.boot_len (pa_cons (pv 1) pa_nil)) pe_int (nomark _)) (pss_one (ps_expr (pe_makeRS MK IK hrI rfl mDo (fun σ => passAt tk σ) (pa_cons (pv 0) (pa_cons (pe_ix ix_list (pv 1) pe_int (fun _ _ => rfl)) (pa_cons (pe_ix ix_list (pv 1) pe_int (fun _ _ => rfl)) (pa_cons (pe_ix ix_list (pv 1) pe_int (fun _ _ => rfl)) pa_nil))))))) (pss_one (ps_ret (pe_call GAt hrAt rfl mAt FAt.kp bAt .nil pass0 (pa_cons (pv 0) (pa_cons (pv 1) pa_nil))))))))))))
          (fun ae oe cls d pn hz hf => pss_one (ps_ret (pe_xf XF hno hz hf (pv 2)))))
      (pss_one (ps_ret (pe_un un_neg pe_int)))), ?_⟩
    have fin : ∀ i H' dd, fault b os = some i → Same H H' → H' dd = none → Q (.int i) (upd H' dd (.xd [(("at" : Str), .int i)])) := fun i H' dd e s' hdd => by
      have z := k _ (s'.trans (Same.new (o := .xd [(("at" : Str), .int i)]) hdd))
      rw [show atOf b os = i by unfold atOf; rw [e]; rfl] at z
      exact z
    have fin2 : ∀ H', fault b os = none → Same H H' → Q (.int (-5)) H' := fun H' e s' => by
      have z := k H' s'
      rw [show atOf b os = -5 by unfold atOf; rw [e]; rfl] at z
      exact z
    refine ⟨_, rfl, _, _, rfl, .inl ⟨_, SqL.of ha, rfl⟩, rfl, _, rfl, ?_⟩
    match xs, hls, hxl, ha with
    | [], hls, hxl, ha =>
      refine iteF ⟨_, rfl, _, _, rfl, .inl ⟨_, SqL.of ha, rfl⟩, rfl, _, rfl, iteF ⟨_, rfl, _, _, rfl, .inl ⟨_, SqL.of ha, rfl⟩, rfl, _, rfl, iteF ?_⟩⟩
      exact ⟨_, rfl, _, rfl, a, nv, b, _, os, rfl, ha, hxl, hnv, hls, k⟩
    | [v0], hls, hxl, ha =>
      refine iteT ?_
      refine ⟨_, rfl, _, rfl, a, _, (0 : Int), _, rfl, rfl, SqL.of ha, atI_nat (j := 0) rfl, ?_⟩
      intro x dx hx hdx ne
      have s1 : Same H (upd H dx (.own x)) := Same.new hdx
      have hx1 : (upd H dx (.own x)) x = none := by rw [upd_ne ne.symm]; exact hx
      have s12 := s1.trans (Same.new (o := .ins C dx []) hx1)
      refine ⟨x, dx, nv, b, [v0], os, rfl, upd_same, hxl, hnv.same s12, L2.Paired.mapP hls fun _ _ q => q.same s12, fun i e H' dd s' hdd => ?_, fun e H' h2 => ⟨rfl, ⟨_, rfl, fin2 H' e fun b o e => h2 _ _ (s12 _ _ e) (ne_of_none e hx)⟩⟩⟩
      exact ⟨true, XB.te, fun _ ea hea => ⟨_, rfl, rfl, rfl, dd, _, _, rfl, upd_same, rfl, fin i H' dd e (s12.trans s') hdd⟩, fun q => Bool.noConfusion q⟩
    | [v0, v1], hls, hxl, ha =>
      refine iteF ⟨_, rfl, _, _, rfl, .inl ⟨_, SqL.of ha, rfl⟩, rfl, _, rfl, iteT ?_⟩
      refine ⟨_, rfl, _, rfl, a, _, (0 : Int), _, rfl, rfl, SqL.of ha, atI_nat (j := 0) rfl, _, rfl, a, _, (1 : Int), _, rfl, rfl, SqL.of ha, atI_nat (j := 1) rfl, ?_⟩
      intro x dx hx hdx ne
      have s1 : Same H (upd H dx (.own x)) := Same.new hdx
      have hx1 : (upd H dx (.own x)) x = none := by rw [upd_ne ne.symm]; exact hx
      have s12 := s1.trans (Same.new (o := .ins C dx []) hx1)
      refine ⟨x, dx, nv, b, [v0, v1], os, rfl, upd_same, hxl, hnv.same s12, L2.Paired.mapP hls fun _ _ q => q.same s12, fun i e H' dd s' hdd => ?_, fun e H' h2 => ⟨rfl, ⟨_, rfl, fin2 H' e fun b o e => h2 _ _ (s12 _ _ e) (ne_of_none e hx)⟩⟩⟩
      exact ⟨true, XB.te, fun _ ea hea => ⟨_, rfl, rfl, rfl, dd, _, _, rfl, upd_same, rfl, fin i H' dd e (s12.trans s') hdd⟩, fun q => Bool.noConfusion q⟩
    | [v0, v1, v2], hls, hxl, ha =>
      refine iteF ⟨_, rfl, _, _, rfl, .inl ⟨_, SqL.of ha, rfl⟩, rfl, _, rfl, iteF ⟨_, rfl, _, _, rfl, .inl ⟨_, SqL.of ha, rfl⟩, rfl, _, rfl, iteT ?_⟩⟩
      refine ⟨_, rfl, _, rfl, a, _, (0 : Int), _, rfl, rfl, SqL.of ha, atI_nat (j := 0) rfl, _, rfl, a, _, (1 : Int), _, rfl, rfl, SqL.of ha, atI_nat (j := 1) rfl, _, rfl, a, _, (2 : Int), _, rfl, rfl, SqL.of ha, atI_nat (j := 2) rfl, ?_⟩
      intro x dx hx hdx ne
      have s1 : Same H (upd H dx (.own x)) := Same.new hdx
      have hx1 : (upd H dx (.own x)) x = none := by rw [upd_ne ne.symm]; exact hx
      have s12 := s1.trans (Same.new (o := .ins C dx []) hx1)
      refine ⟨x, dx, nv, b, [v0, v1, v2], os, rfl, upd_same, hxl, hnv.same s12, L2.Paired.mapP hls fun _ _ q => q.same s12, fun i e H' dd s' hdd => ?_, fun e H' h2 => ⟨rfl, ⟨_, rfl, fin2 H' e fun b o e => h2 _ _ (s12 _ _ e) (ne_of_none e hx)⟩⟩⟩
      exact ⟨true, XB.te, fun _ ea hea => ⟨_, rfl, rfl, rfl, dd, _, _, rfl, upd_same, rfl, fin i H' dd e (s12.trans s') hdd⟩, fun q => Bool.noConfusion q⟩
    | v0 :: v1 :: v2 :: v3 :: vr, hls, hxl, ha =>
      have n1 : ∀ m : Int, m ≤ 3 → decide (V.int (((v0 :: v1 :: v2 :: v3 :: vr).length : Nat) : Int) = V.int m) = false := fun m h => decide_eq_false fun e => by
        have q := V.int.inj e
        simp only [List.length_cons] at q
        omega
      rw [n1 1 (by decide)]
      refine iteF ⟨_, rfl, _, _, rfl, .inl ⟨_, SqL.of ha, rfl⟩, rfl, _, rfl, ?_⟩
      rw [n1 2 (by decide)]
      refine iteF ⟨_, rfl, _, _, rfl, .inl ⟨_, SqL.of ha, rfl⟩, rfl, _, rfl, ?_⟩
      rw [n1 3 (by decide)]
      refine iteF ?_
      exact ⟨_, rfl, _, rfl, a, nv, b, _, os, rfl, ha, hxl, hnv, hls, k⟩
end
end Dr

set_option Elab.async false
set_option linter.all false
set_option maxRecDepth 100000
set_option maxHeartbeats 8000000
/-! Lines refused: what is told, plain. -/
namespace Dr
open PySem L2 Cs
theorem at_good {ts : List StepD} (h : badAll ts = false) : atOf true (ts.map some) = -5 := by
  unfold atOf
  rw [fault_map, if_neg (by rw [h]; decide)]
  rfl
theorem at_in {ts : List StepD} {n : Nat} (h : n ≤ ts.length) (os : List (Option StepD)) : atOf true ((ts.take n).map some ++ none :: os) = (n : Int) := by
  unfold atOf
  rw [fault_in, List.length_take, Nat.min_eq_left h]
  · rfl
  · exact []
theorem at_first (os : List (Option StepD)) : atOf true (none :: os) = 0 := at_in (ts := []) (n := 0) (Nat.zero_le _) os
theorem strs_np {H : Hp} {p c a : Addr} {zs : List Str} (S : Src H p c) (h : H a = some (.lst (zs.map V.str))) : a ≠ p := fun e => by
  obtain ⟨ns, i, l, n, hp, _⟩ := S
  rw [e, hp] at h
  cases zs with
  | nil => cases h
  | cons z zs => cases h
theorem paired_app {α β : Type} {R : α → β → Prop} {xs ys : List α} {us ws : List β} (h : Paired R xs us) (k : Paired R ys ws) : Paired R (xs ++ ys) (us ++ ws) := by
  induction h with
  | nil => exact k
  | cons r _ ih => exact .cons r ih
theorem LnE.kpN {H H' : Hp} {p : Addr} {v : V} (h : LnE H v none) (n : ∀ a, v = .ref a → a ≠ p) (k : Kp p H H') : LnE H' v none := by
  rcases h with h | ⟨_, h⟩
  · exact .inl h
  · refine .inr ⟨rfl, ?_⟩
    cases h with
    | non => exact .non
    | bl b => exact .bl b
    | int i => exact .int i
    | lst h => exact .lst (k _ _ h (n _ rfl))
    | tup h => exact .tup (k _ _ h (n _ rfl))
/-- a text that is no line, found by looking -/
def lnB (z : Str) : Bool := let ts := Txt.split z " "; decide (z = Txt.join " " ts) && (decide (ts ≠ []) && (decide (ts.length ≤ 100) && (ts.all tokB && (readToks ts).isNone)))
theorem lnB_ok {z : Str} (h : lnB z = true) (H : Hp) : LnE H (.str z) none := by
  unfold lnB at h
  simp only [Bool.and_eq_true, decide_eq_true_eq] at h
  exact ln_lit _ h.1 h.2.1 h.2.2.1 h.2.2.2.1 (Option.isNone_iff_eq_none.mp h.2.2.2.2)
def L14 : List Str := ["hold", "look", "do", "row", "one", "all", "new", "give", "take", "join", "other", "if", "and", "or"]
theorem l14_ok : ∀ z ∈ L14, (lnB ((("look " : String) : Str) ++ z ++ " = 1") && (lnB ((("do new " : String) : Str) ++ z) && (lnB ((("do all " : String) : Str) ++ z ++ " -> gone") && lnB ((("look row " : String) : Str) ++ z)))) = true ∧ z.length ≤ 8 := by decide +kernel
theorem l14 {z : Str} (m : z ∈ L14) : ∀ x ∈ ([(("look " : String) : Str) ++ z ++ " = 1", (("do new " : String) : Str) ++ z, (("do all " : String) : Str) ++ z ++ " -> gone", (("look row " : String) : Str) ++ z] : List Str), ∀ H : Hp, LnE H (.str x) none := by
  have h := (l14_ok z m).1
  simp only [Bool.and_eq_true] at h
  intro x mx H
  simp only [List.mem_cons, List.not_mem_nil, or_false] at mx
  rcases mx with rfl | rfl | rfl | rfl
  · exact lnB_ok h.1 H
  · exact lnB_ok h.2.1 H
  · exact lnB_ok h.2.2.1 H
  · exact lnB_ok h.2.2.2 H
theorem l4 {a : Str} (ha : kindB a = true) (b : Str) (hb : kindB b = true) (hab : a ≠ b) : ∀ x ∈ ([(("look then = 1" : String) : Str), (("do new then" : String) : Str), (("do take gone -> " : String) : Str) ++ a, (("do row " : String) : Str) ++ a ++ " -> then"] : List Str), ∀ H : Hp, LnE H (.str x) none := by
  intro x mx H
  simp only [List.mem_cons, List.not_mem_nil, or_false] at mx
  rcases mx with rfl | rfl | rfl | rfl
  · exact lnB_ok (by decide +kernel) H
  · exact lnB_ok (by decide +kernel) H
  · exact wrong_line ha hb hab (L := [.lit "do", .lit "take", .lit "gone", .lit "->", .a]) (by decide +kernel) (by simp) (by decide) (by decide +kernel) (by rw [TL.join_eq]; refine TL.ext_tl ?_; simp only [List.map_cons, List.map_nil, Tk.dst, joinS_one, joinS_consD, TL.tl_append, List.append_assoc] <;> first | kernel_rfl | rfl)
  · exact wrong_line ha hb hab (L := [.lit "do", .lit "row", .a, .lit "->", .lit "then"]) (by decide +kernel) (by simp) (by decide) (by decide +kernel) (by rw [TL.join_eq]; refine TL.ext_tl ?_; simp only [List.map_cons, List.map_nil, Tk.dst, joinS_one, joinS_consD, TL.tl_append, List.append_assoc] <;> first | kernel_rfl | rfl)
end Dr

set_option Elab.async false
set_option linter.all false
set_option maxRecDepth 100000
set_option maxHeartbeats 8000000
set_option pp.maxSteps 500
/-! Lines refused: the law. -/
namespace Dr
open PySem L2 Cs
section
variable {P : Program} {w : World} {K : PySem.W.Frag} {mg : Str → Option Value} {base : Heap}
theorem ok_law {f fS fD fW fKs fLi fF1 fF2 fEa fAt : Addr} {fd fdS fdD fdW fdKs fdLi fdF1 fdF2 fdEa fdAt : FuncData} (F : Fun K "law" "law" s_law f fd) (g : Bi mg)
    (FS : Def P w K mg base CX0 1 "_law_source" ["_law_script"] (spSource K) fS fdS) (FD : Def P w K mg base CX0 2 "_law_draw" ["_law_source_here", "_law_size"] spDraw fD fdD) (FW : Def P w K mg base CX0 3 "_law_word" ["_law_source_here"] spWord fW fdW) (FKs : Def P w K mg base CX0 4 "_law_kinds" ["_law_source_here", "_law_many"] spKinds fKs fdKs)
    (FLi : Def P w K mg base CX0 6 "_law_lines" ["_law_source_here", "_law_kinds_here", "_law_ruled"] spLines fLi fdLi) (FF1 : Def P w K mg base CX0 1 "_law_first_faults" ["_law_a", "_law_b"] (spFaults 34) fF1 fdF1) (FF2 : Def P w K mg base CX0 1 "_law_second_faults" ["_law_a", "_law_b"] (spFaults 35) fF2 fdF2)
    (FEa : Def P w K mg base CX0 12 "_law_each" ["_law_name", "_law_lines_here"] (spLAt K) fEa fdEa) (FAt : Def P w K mg base CX0 11 "_law_at" ["_law_name", "_law_lines_here"] (spLAt K) fAt fdAt) : FnOk P w K mg base CX0 13 f fd ["_law_script"] (spLawD K) := by
  obtain ⟨GS, mS, _, bS⟩ := id FS
  obtain ⟨GD, mD, _, bD⟩ := id FD
  obtain ⟨GW, mW, _, bW⟩ := id FW
  obtain ⟨GKs, mKs, _, bKs⟩ := id FKs
  obtain ⟨GLi, mLi, _, bLi⟩ := id FLi
  obtain ⟨GF1, mF1, _, bF1⟩ := id FF1
  obtain ⟨GF2, mF2, _, bF2⟩ := id FF2
  obtain ⟨GEa, mEa, _, bEa⟩ := id FEa
  obtain ⟨GAt, mAt, _, bAt⟩ := id FAt
  refine F.ok sc_law (fun vs H Q E h => ?_) (fun cdv A outer s H vs Q E hr h => ?_)
  · obtain ⟨_, _, rfl, _⟩ := h
    rfl
  · obtain ⟨sc, ns, rfl, hS, hlen, kQ⟩ := h
    have hrS : Room 1 _ := hr.mono (by decide)
    have hrF1 : Room 1 _ := hr.mono (by decide)
    have hrF2 : Room 1 _ := hr.mono (by decide)
    have hrD : Room 2 _ := hr.mono (by decide)
    have hrW : Room 3 _ := hr.mono (by decide)
    have hrKs : Room 4 _ := hr.mono (by decide)
    have hrLi : Room 6 _ := hr.mono (by decide)
    have hrAt : Room 11 _ := hr.mono (by decide)
    have hrEa : Room 12 _ := hr
    have big : 8000 ≤ sizeLine := by decide
    refine ⟨_, (pss_cons (ps_set (i := 1) sc_law.nd rfl (Or.inl rfl) (pe_call GS hrS rfl mS FS.kp bS .nil pass0 (pa_cons (pv 0) pa_nil)))
      (pss_cons (ps_set (i := 2) sc_law.nd rfl (Or.inl rfl) (pe_call GW hrW rfl mW FW.kp bW .nil pass0 (pa_cons (pv 1) pa_nil)))
      (pss_cons (ps_set (i := 3) sc_law.nd rfl (Or.inl rfl) (pe_call GKs hrKs rfl mKs FKs.kp bKs .nil pass0 (pa_cons (pv 1) (pa_cons (pe_op op_add pe_int (pe_call GD hrD rfl mD FD.kp bD .nil pass0 (pa_cons (pv 1) (pa_cons pe_int pa_nil)))) pa_nil))))
      (pss_cons (ps_set (i := 4) sc_law.nd rfl (Or.inl rfl) (pe_call GLi hrLi rfl mLi FLi.kp bLi .nil pass0 (pa_cons (pv 1) (pa_cons (pv 3) (pa_cons (pv 3) pa_nil)))))
      (pss_cons (ps_set (i := 5) sc_law.nd rfl (Or.inl rfl) (pe_op op_cat (pe_call GF1 hrF1 rfl mF1 FF1.kp bF1 .nil pass0 (pa_cons (pe_ix ix_list (pv 3) pe_int (fun _ _ => rfl)) (pa_cons (pe_ix ix_list (pv 3) pe_int (fun _ _ => rfl)) pa_nil))) (pe_call GF2 hrF2 rfl mF2 FF2.kp bF2 .nil pass0 (pa_cons (pe_ix ix_list (pv 3) pe_int (fun _ _ => rfl)) (pa_cons (pe_ix ix_list (pv 3) pe_int (fun _ _ => rfl)) pa_nil)))))
      (pss_cons (ps_set (i := 6) sc_law.nd rfl (Or.inl rfl) (pe_ix ix_list (pv 5) (pe_call GD hrD rfl mD FD.kp bD .nil pass0 (pa_cons (pv 1) (pa_cons (pe_callB call_len (by rfl) g.len PySem.boot_len (pa_cons (pv 5) pa_nil)) pa_nil))) (fun _ _ => rfl)))
      (C8.pss_cut (ps_if (pt_cmpR op_eq (pe_call GD hrD rfl mD FD.kp bD .nil pass0 (pa_cons (pv 1) (pa_cons pe_int pa_nil))) pe_int (nomark _)) (pss_one (ps_set (i := 6) sc_law.nd rfl (Or.inl rfl) (pe_ix ix_list (pe_lst (pa_cons pe_non (pa_cons pe_int (pa_cons pe_bl (pa_cons (pe_lst (pa_cons pe_str pa_nil)) (pa_cons (pe_tup (pa_cons pe_str pa_nil)) (pa_cons (pe_op op_pow pe_int pe_int) (pa_cons (pe_lst pa_nil) pa_nil)))))))) (pe_call GD hrD rfl mD FD.kp bD .nil pass0 (pa_cons (pv 1) (pa_cons pe_int pa_nil))) (fun _ _ => rfl)))) pss_nil)
      (pss_cons (ps_set (i := 7) sc_law.nd rfl (Or.inl rfl) (pe_call GD hrD rfl mD FD.kp bD .nil pass0 (pa_cons (pv 1) (pa_cons (pe_op op_add (pe_callB call_len (by rfl) g.len PySem.boot_len (pa_cons (pv 4) pa_nil)) pe_int) pa_nil))))
      (pss_cons (ps_set (i := 8) sc_law.nd rfl (Or.inl rfl) (pe_op op_cat (pe_op op_cat (pe_slice sl_list (pv 4) po_none (po_some (pv 7))) (pe_lst (pa_cons (pv 6) pa_nil))) (pe_slice sl_list (pv 4) (po_some (pv 7)) po_none)))
      (C8.pss_cut (ps_if (pt_cmpR op_eq (pe_call GD hrD rfl mD FD.kp bD .nil pass0 (pa_cons (pv 1) (pa_cons pe_int pa_nil))) pe_int (nomark _)) (pss_one (ps_expr (pe_bm PySem.F.plainAttrs_list PySem.F.slot_list_append PySem.F.type_list_append mt_append (pv 8) (pa_cons (pe_ix ix_list (pv 5) (pe_call GD hrD rfl mD FD.kp bD .nil pass0 (pa_cons (pv 1) (pa_cons (pe_callB call_len (by rfl) g.len PySem.boot_len (pa_cons (pv 5) pa_nil)) pa_nil))) (fun _ _ => rfl)) pa_nil)))) pss_nil)
      (pss_cons (ps_if (PW.pt (pw_or (pt_cmpR op_ne (pe_call GAt hrAt rfl mAt FAt.kp bAt .nil pass0 (pa_cons (pv 2) (pa_cons (pv 4) pa_nil))) (pe_un un_neg pe_int) (nomark _)) (pw_or (pt_cmpR op_ne (pe_call GAt hrAt rfl mAt FAt.kp bAt .nil pass0 (pa_cons (pv 2) (pa_cons (pv 8) pa_nil))) (pv 7) (nomark _)) (pw_or1 (pt_cmpR op_ne (pe_call GEa hrEa rfl mEa FEa.kp bEa .nil pass0 (pa_cons (pv 2) (pa_cons (pv 8) pa_nil))) (pv 7) (nomark _)))))) (pss_one (ps_ret pe_bl)) pss_nil)
      (pss_cons (ps_for PassesOwn.never rfl (pi_list (pe_lst (pa_cons pe_str (pa_cons pe_str (pa_cons pe_str (pa_cons pe_str (pa_cons pe_str (pa_cons pe_str (pa_cons pe_str (pa_cons pe_str (pa_cons pe_str (pa_cons pe_str (pa_cons pe_str (pa_cons pe_str (pa_cons pe_str (pa_cons pe_str pa_nil)))))))))))))))) (pg_name (i := 9) sc_law.nd rfl (Or.inl rfl)) (pss_one (ps_for PassesOwn.never rfl (pi_list (pe_lst (pa_cons (pe_op op_add_str (pe_op op_add_str pe_str (pv 9)) pe_str) (pa_cons (pe_op op_add_str pe_str (pv 9)) (pa_cons (pe_op op_add_str (pe_op op_add_str pe_str (pv 9)) pe_str) (pa_cons (pe_op op_add_str pe_str (pv 9)) pa_nil)))))) (pg_name (i := 10) sc_law.nd rfl (Or.inl rfl)) (pss_one (ps_if (pt_cmpR op_ne (pe_call GAt hrAt rfl mAt FAt.kp bAt .nil pass0 (pa_cons (pv 2) (pa_cons (pe_op op_cat (pe_lst (pa_cons (pv 10) pa_nil)) (pv 4)) pa_nil))) pe_int (nomark _)) (pss_one (ps_ret pe_bl)) pss_nil)))))
      (pss_cons (ps_for PassesOwn.never rfl (pi_list (pe_lst (pa_cons pe_str (pa_cons pe_str (pa_cons (pe_op op_add_str pe_str (pe_ix ix_list (pv 3) pe_int (fun _ _ => rfl))) (pa_cons (pe_op op_add_str (pe_op op_add_str pe_str (pe_ix ix_list (pv 3) pe_int (fun _ _ => rfl))) pe_str) pa_nil)))))) (pg_name (i := 10) sc_law.nd rfl (Or.inl rfl)) (pss_one (ps_if (pt_cmpR op_ne (pe_call GAt hrAt rfl mAt FAt.kp bAt .nil pass0 (pa_cons (pv 2) (pa_cons (pe_op op_cat (pe_lst (pa_cons (pv 10) pa_nil)) (pv 4)) pa_nil))) pe_int (nomark _)) (pss_one (ps_ret pe_bl)) pss_nil)))
      (pss_cons (ps_set (i := 11) sc_law.nd rfl (Or.inl rfl) (pe_op op_cat (pe_op op_cat (pe_slice sl_list (pv 4) po_none (po_some (pv 7))) (pe_lst (pa_cons (pv 6) pa_nil))) (pe_slice sl_list (pv 4) (po_some (pe_op op_add (pv 7) pe_int)) po_none)))
      (pss_one (ps_ret (pe_and (pe_cmpR op_eq (pe_call GAt hrAt rfl mAt FAt.kp bAt .nil pass0 (pa_cons (pv 2) (pa_cons (pv 11) pa_nil))) (pv 7) (nomark _)) (pe_one (pe_cmpR op_eq (pe_call GEa hrEa rfl mEa FEa.kp bEa .nil pass0 (pa_cons (pv 2) (pa_cons (pv 4) pa_nil))) (pe_un un_neg pe_int) (nomark _)))))))))))))))))))), ?_⟩
    refine ⟨_, rfl, sc, ns, rfl, hS, fun p c H1 hp hc s1 S1 => ?_⟩
    refine ⟨_, rfl, p, c, rfl, S1, fun nm H2 hnm S2 k2 => ?_⟩
    refine ⟨_, rfl, _, rfl, p, c, 4, rfl, S2, by decide, by decide, fun v1 H3 v10 v11 S3 k3 => ⟨_, _, rfl, rfl, ?_⟩⟩
    obtain ⟨m1, rfl⟩ : ∃ n : Nat, v1 = n := ⟨v1.toNat, by omega⟩
    refine ⟨p, c, 2 + m1, by show [V.ref p, V.int (2 + (m1 : Int))] = [V.ref p, V.int ((2 + m1 : Nat) : Int)]; rw [Int.natCast_add]; rfl, S3, by omega, fun kl H4 ks hkl hk4 hkn hknd hkk S4 k4 => ?_⟩
    have nkp : kl ≠ p := S3.new_p hkl
    have gk : GoodKs ks := ⟨fun e => by rw [e] at hkn; simp at hkn; omega, hknd, fun z m => kindB_of (hkk z m), by omega⟩
    refine ⟨_, rfl, _, rfl, _, rfl, p, c, kl, kl, ks, ks, rfl, S4, hk4, nkp, hk4, nkp, gk, gk, fun l ts H5 hl0 gl kd hl5 nlp nlc S5 k5 => ?_⟩
    have hk5 := k5 _ _ hk4 nkp
    obtain ⟨ka, kb, kr, rfl⟩ : ∃ a b r, ks = a :: b :: r := by
      match ks, hkn with
      | a :: b :: r, _ => exact ⟨a, b, r, rfl⟩
      | [], h => simp at h; omega
      | [_], h => simp at h; omega
    have ha := gk.kd ka List.mem_cons_self
    have hb := gk.kd kb (List.mem_cons_of_mem _ List.mem_cons_self)
    have hab : ka ≠ kb := fun e => (List.nodup_cons.mp hknd).1 (by rw [e]; exact List.mem_cons_self)
    have la := kind_len ha
    -- the wrong lines
    refine ⟨_, rfl, kl, _, (0 : Int), _, rfl, rfl, SqL.of hk5, atI_nat (j := 0) rfl, _, rfl, kl, _, (1 : Int), _, rfl, rfl, SqL.of hk5, atI_nat (j := 1) rfl, ka, kb, rfl, ha, hb, hab, fun q1 H6 W1 n1 s6 e6 g1 l1 => ?_⟩
    have hk6 := s6 _ _ hk5
    refine ⟨_, rfl, kl, _, (0 : Int), _, rfl, rfl, SqL.of hk6, atI_nat (j := 0) rfl, _, rfl, kl, _, (1 : Int), _, rfl, rfl, SqL.of hk6, atI_nat (j := 1) rfl, ka, kb, rfl, ha, hb, hab, fun q2 H7 W2 n2 s7 e7 g2 l2 => ?_⟩
    refine ⟨q1, q2, _, _, rfl, rfl, s7 _ _ e6, e7, by rw [List.length_map, List.length_map, l1, l2]; decide, fun R hR => ?_⟩
    have gW : ∀ z ∈ W1 ++ W2, ∀ H : Hp, LnE H (.str z) none := mem_both g1 g2
    have lW : (W1 ++ W2).length = 69 := by rw [List.length_append, l1, l2]
    rw [← List.map_append]
    have s8 := (s6.trans s7).trans (Same.new (o := .lst ((W1 ++ W2).map V.str)) hR)
    have e8 := upd_same (H := H7) (a := R) (o := .lst ((W1 ++ W2).map V.str))
    have S8 := S5.same s8
    have nRp : R ≠ p := (S5.same (s6.trans s7)).new_p hR
    have hl8 := s8 _ _ hl5
    have hk8 := s8 _ _ hk5
    generalize upd H7 R (.lst ((W1 ++ W2).map V.str)) = H8 at s8 e8 S8 hl8 hk8 ⊢
    generalize W1 ++ W2 = W at gW lW e8
    clear g1 g2 l1 l2 e6 e7 n1 n2 s6 s7
    refine ⟨_, rfl, _, rfl, _, rfl, _, _, rfl, .inl ⟨_, SqL.of e8, rfl⟩, p, c, _, rfl, S8, by rw [List.length_map, lW]; decide, by rw [List.length_map, lW]; decide, fun v2 H9 v20 v21 S9 k9 => ?_⟩
    rw [List.length_map] at v21
    obtain ⟨z0, mz0, atz0⟩ := at_idx (zs := W) v20 v21
    refine ⟨R, _, v2, _, rfl, rfl, SqL.of (k9 _ _ e8 nRp), atz0, ?_⟩
    -- another value
    refine ⟨fun σ' H' => ∃ wv : V, σ' = [some (.ref sc), some (.ref p), some (.str nm), some (.ref kl), some (.ref l), some (.ref R), some wv, none, none, none, none, none] ∧ LnE H' wv none ∧ (∀ a, wv = .ref a → a ≠ p) ∧ Src H' p c ∧ Kp p H8 H', ?_, ?_⟩
    · refine ⟨_, rfl, p, c, 8, rfl, S9, by decide, by decide, fun v3 H10 v30 v31 S10 k10 => ⟨rfl, _, rfl, ?_⟩⟩
      have k810 := k9.trans k10
      by_cases c1 : V.int v3 = V.int 1
      case neg =>
        rw [decide_eq_false c1]
        exact iteF ⟨_, rfl, gW z0 mz0 _, fun _ e => (by cases e), S10, k810⟩
      rw [decide_eq_true c1]
      refine iteT ⟨by show 1 ≤ sizeLine; decide, fun x1 hx1 => ?_⟩
      have s11 := Same.new (o := .lst [.str "hold"]) hx1
      have f1 := upd_same (H := H10) (a := x1) (o := .lst [.str "hold"])
      have nx1 := S10.new_p hx1
      have S11 := S10.same s11
      generalize upd H10 x1 (.lst [.str "hold"]) = H11 at s11 f1 S11 ⊢
      refine ⟨by show 1 ≤ sizeLine; decide, fun x2 hx2 => ?_⟩
      have s12 := s11.trans (Same.new (o := .tup [.str "hold"]) hx2)
      have f1 := Same.new (o := .tup [.str "hold"]) hx2 _ _ f1
      have f2 := upd_same (H := H11) (a := x2) (o := .tup [.str "hold"])
      have nx2 := S11.new_p hx2
      have S12 := S10.same s12
      generalize upd H11 x2 (.tup [.str "hold"]) = H12 at s12 f1 f2 S12 ⊢
      refine ⟨_, _, rfl, rfl, ⟨by decide, by decide, by decide⟩, Nat.zero_le _, fun x3 hx3 => ?_⟩
      have s13 := s12.trans (Same.new (o := .lst []) hx3)
      have f1 := Same.new (o := .lst []) hx3 _ _ f1
      have f2 := Same.new (o := .lst []) hx3 _ _ f2
      have f3 := upd_same (H := H12) (a := x3) (o := .lst [])
      have nx3 := S12.new_p hx3
      have S13 := S10.same s13
      generalize upd H12 x3 (.lst []) = H13 at s13 f1 f2 f3 S13 ⊢
      refine ⟨by show 7 ≤ sizeLine; decide, fun x4 hx4 => ?_⟩
      generalize hX : ([.non, .int 5, .bl true, .ref x1, .ref x2, .int (10 ^ (29 : Int).toNat), .ref x3] : List V) = X
      have s14 := s13.trans (Same.new (o := .lst X) hx4)
      have f1 := Same.new (o := .lst X) hx4 _ _ f1
      have f2 := Same.new (o := .lst X) hx4 _ _ f2
      have f3 := Same.new (o := .lst X) hx4 _ _ f3
      have f4 := upd_same (H := H13) (a := x4) (o := .lst X)
      have nx4 := S13.new_p hx4
      have S14 := S10.same s14
      generalize upd H13 x4 (.lst X) = H14 at s14 f1 f2 f3 f4 S14 ⊢
      refine ⟨_, rfl, p, c, 7, rfl, S14, by decide, by decide, fun v4 H15 v40 v41 S15 k15 => ?_⟩
      have f1 := k15 _ _ f1 nx1
      have f2 := k15 _ _ f2 nx2
      have f3 := k15 _ _ f3 nx3
      have f4 := k15 _ _ f4 nx4
      obtain ⟨wv, hwv, h1, h2⟩ : ∃ wv, atI X v4 = some wv ∧ LnE H15 wv none ∧ (∀ a, wv = .ref a → a ≠ p) := by
        rw [← hX]
        rcases (show v4 = 0 ∨ v4 = 1 ∨ v4 = 2 ∨ v4 = 3 ∨ v4 = 4 ∨ v4 = 5 ∨ v4 = 6 by omega) with rfl | rfl | rfl | rfl | rfl | rfl | rfl
        · exact ⟨_, rfl, .inr ⟨rfl, .non⟩, fun _ e => (by cases e)⟩
        · exact ⟨_, rfl, .inr ⟨rfl, .int _⟩, fun _ e => (by cases e)⟩
        · exact ⟨_, rfl, .inr ⟨rfl, .bl _⟩, fun _ e => (by cases e)⟩
        · exact ⟨_, rfl, .inr ⟨rfl, .lst f1⟩, fun _ e => (by cases e; exact nx1)⟩
        · exact ⟨_, rfl, .inr ⟨rfl, .tup f2⟩, fun _ e => (by cases e; exact nx2)⟩
        · exact ⟨_, rfl, .inr ⟨rfl, .int _⟩, fun _ e => (by cases e)⟩
        · exact ⟨_, rfl, .inr ⟨rfl, .lst f3⟩, fun _ e => (by cases e; exact nx3)⟩
      exact ⟨x4, _, v4, wv, rfl, rfl, SqL.of f4, hwv, _, rfl, h1, h2, S15, (k810.trans (.of s14)).trans k15⟩
    rintro σ' H9' ⟨wv, rfl, hwl, hwp, S9', k89⟩
    clear z0 mz0 atz0 v2 v20 v21 S9 k9
    have hl9 := k89 _ _ hl8 nlp
    have few := gl.few
    have hll : ((ts.map lineS).map V.str).length = ts.length := by rw [List.length_map, List.length_map]
    refine ⟨_, rfl, _, rfl, _, _, rfl, .inl ⟨_, SqL.of hl9, rfl⟩, _, _, rfl, rfl, p, c, _, rfl, S9', by rw [hll]; omega, by rw [hll]; exact Int.lt_of_le_of_lt (show ((ts.length : Nat) : Int) + 1 ≤ 9 by omega) (by decide), fun n' H10 n0 n1 S10 k10 => ?_⟩
    rw [hll] at n1
    obtain ⟨n, rfl⟩ := Int.eq_ofNat_of_zero_le n0
    have hn : n ≤ ts.length := by omega
    have k8A := k89.trans k10
    have hlA := k8A _ _ hl8 nlp
    have hwA := hwl.kpN hwp k10
    have cutL : ∀ m : Nat, cutV ((ts.map lineS).map V.str) none (some (m : Int)) = ((ts.take m).map lineS).map V.str := fun m => by rw [cut_first]; simp [List.map_take]
    have cutR : ∀ m : Nat, cutV ((ts.map lineS).map V.str) (some (m : Int)) none = ((ts.drop m).map lineS).map V.str := fun m => by rw [cut_rest]; simp [List.map_drop]
    have pT : ∀ (m : Nat) (H' : Hp), Paired (LnE H') (((ts.take m).map lineS).map V.str) ((ts.take m).map some) := fun m H' => lns_good fun t mt => gl.good t (List.mem_of_mem_take mt)
    have pD : ∀ (m : Nat) (H' : Hp), Paired (LnE H') (((ts.drop m).map lineS).map V.str) ((ts.drop m).map some) := fun m H' => lns_good fun t mt => gl.good t (List.mem_of_mem_drop mt)
    have lT : ∀ m : Nat, (((ts.take m).map lineS).map V.str).length ≤ 6 := fun m => by rw [List.length_map, List.length_map, List.length_take]; omega
    have lD : ∀ m : Nat, (((ts.drop m).map lineS).map V.str).length ≤ 6 := fun m => by rw [List.length_map, List.length_map, List.length_drop]; omega
    -- faulty
    refine ⟨_, rfl, _, rfl, _, rfl, l, _, rfl, SqL.of hlA, fun q1 hq1 => ?_⟩
    rw [cutL]
    have t1 := Same.new (o := .lst (((ts.take n).map lineS).map V.str)) hq1
    have e1 := upd_same (H := H10) (a := q1) (o := .lst (((ts.take n).map lineS).map V.str))
    generalize upd H10 q1 (.lst (((ts.take n).map lineS).map V.str)) = HB at t1 e1 ⊢
    refine ⟨_, rfl, by show 1 ≤ sizeLine; decide, fun q2 hq2 => ?_⟩
    have t2 := t1.trans (Same.new (o := .lst [wv]) hq2)
    have e1 := Same.new (o := .lst [wv]) hq2 _ _ e1
    have e2 := upd_same (H := HB) (a := q2) (o := .lst [wv])
    generalize upd HB q2 (.lst [wv]) = HC at t2 e1 e2 ⊢
    refine ⟨q1, q2, _, _, rfl, rfl, e1, e2, Nat.le_trans (Nat.add_le_add (lT n) (Nat.le_refl 1)) (by decide), fun q3 hq3 => ?_⟩
    have t3 := t2.trans (Same.new (o := .lst (((ts.take n).map lineS).map V.str ++ [wv])) hq3)
    have e3 := upd_same (H := HC) (a := q3) (o := .lst (((ts.take n).map lineS).map V.str ++ [wv]))
    generalize upd HC q3 (.lst (((ts.take n).map lineS).map V.str ++ [wv])) = HD at t3 e3 ⊢
    refine ⟨_, rfl, _, rfl, _, rfl, l, _, rfl, SqL.of (t3 _ _ hlA), fun q4 hq4 => ?_⟩
    rw [cutR]
    have t4 := t3.trans (Same.new (o := .lst (((ts.drop n).map lineS).map V.str)) hq4)
    have e3 := Same.new (o := .lst (((ts.drop n).map lineS).map V.str)) hq4 _ _ e3
    have e4 := upd_same (H := HD) (a := q4) (o := .lst (((ts.drop n).map lineS).map V.str))
    generalize upd HD q4 (.lst (((ts.drop n).map lineS).map V.str)) = HE at t4 e3 e4 ⊢
    have l7 : (((ts.take n).map lineS).map V.str ++ [wv]).length ≤ 7 := by rw [List.length_append]; exact Nat.add_le_add (lT n) (Nat.le_refl 1)
    refine ⟨q3, q4, _, _, rfl, rfl, e3, e4, Nat.le_trans (Nat.add_le_add l7 (lD n)) (by decide), fun D hD => ?_⟩
    generalize hF : ((ts.take n).map lineS).map V.str ++ [wv] ++ ((ts.drop n).map lineS).map V.str = F0
    have pF : ∀ H', LnE H' wv none → Paired (LnE H') F0 ((ts.take n).map some ++ none :: (ts.drop n).map some) := fun H' h => by
      rw [← hF, List.append_assoc]
      exact paired_app (pT n H') (.cons h (pD n H'))
    have lF : F0.length ≤ 13 := by rw [← hF, List.length_append]; exact Nat.add_le_add l7 (lD n)
    have t5 := t4.trans (Same.new (o := .lst F0) hD)
    have e5 := upd_same (H := HE) (a := D) (o := .lst F0)
    have S5' := S10.same t5
    have nDp : D ≠ p := (S10.same t4).new_p hD
    have nDc : D ≠ c := (S10.same t4).new_c hD
    have hDA := Same.noneN t4 hD
    generalize upd HE D (.lst F0) = HG at t5 e5 S5' ⊢
    clear hF e1 e2 e3 e4 t1 t2 t3 t4 hq1 hq2 hq3 hq4 hD
    have hwG := hwA.same t5
    have hlG := t5 _ _ hlA
    -- one more wrong line
    refine ⟨fun σ' H' => σ' = [some (.ref sc), some (.ref p), some (.str nm), some (.ref kl), some (.ref l), some (.ref R), some wv, some (.int (n : Int)), some (.ref D), none, none, none] ∧ ∃ (F1 : List V) (ro : List (Option StepD)), H' D = some (.lst F1) ∧ F1.length ≤ 20 ∧ (∀ H', LnE H' wv none → Paired (LnE H') F1 ((ts.take n).map some ++ none :: ro)) ∧ LnE H' wv none ∧ H' l = some (.lst ((ts.map lineS).map V.str)) ∧ H' kl = some (.lst ((ka :: kb :: kr).map V.str)), ?_, ?_⟩
    · have hkG := t5 _ _ (k8A _ _ hk8 nkp)
      have eRG := t5 _ _ (k8A _ _ e8 nRp)
      refine ⟨_, rfl, p, c, 4, rfl, S5', by decide, by decide, fun v3 H11 v30 v31 S11 k11 => ⟨rfl, _, rfl, ?_⟩⟩
      have e5 := k11 _ _ e5 nDp
      have hw11 := hwG.kpN hwp k11
      have hl11 := k11 _ _ hlG nlp
      have hk11 := k11 _ _ hkG nkp
      have eR11 := k11 _ _ eRG nRp
      by_cases c1 : V.int v3 = V.int 1
      case neg =>
        rw [decide_eq_false c1]
        exact iteF ⟨rfl, F0, _, e5, by omega, pF, hw11, hl11, hk11⟩
      rw [decide_eq_true c1]
      refine iteT ⟨_, rfl, .inl ⟨rfl, _, SqL.of e5⟩, _, rfl, _, rfl, _, rfl, _, _, rfl, .inl ⟨_, SqL.of eR11, rfl⟩, p, c, _, rfl, S11, by rw [List.length_map, lW]; decide, by rw [List.length_map, lW]; decide, fun v4 H12 v40 v41 S12 k12 => ?_⟩
      rw [List.length_map] at v41
      obtain ⟨z1, mz1, atz1⟩ := at_idx (zs := W) v40 v41
      have e5 := k12 _ _ e5 nDp
      refine ⟨R, _, v4, _, rfl, rfl, SqL.of (k12 _ _ eR11 nRp), atz1, D, _, _, rfl, rfl, e5, Nat.lt_of_le_of_lt lF (by decide), ?_⟩
      have hl12 := k12 _ _ hl11 nlp
      have hk12 := k12 _ _ hk11 nkp
      have hw12 := hw11.kpN hwp k12
      have nDl : l ≠ D := fun e => by rw [e] at hlA; rw [hlA] at hDA; cases hDA
      have nDk : kl ≠ D := fun e => by
        have q := k8A _ _ hk8 nkp
        rw [e, hDA] at q
        cases q
      refine ⟨rfl, F0 ++ [.str z1], (ts.drop n).map some ++ [none], upd_same, by rw [List.length_append]; show F0.length + 1 ≤ 20; omega, fun H' h => ?_, ?_, by rw [upd_ne nDl]; exact hl12, by rw [upd_ne nDk]; exact hk12⟩
      · have q := paired_snoc (pF H' h) (gW z1 mz1 H')
        rw [List.append_assoc] at q
        exact q
      · refine hw12.kpN (p := D) (fun a e e2 => ?_) fun b o h n => by rw [upd_ne n]; exact h
        subst e
        rcases hwA with ⟨_, e, _⟩ | ⟨_, h⟩
        · cases e
        · cases h with
          | lst h => rw [e2, hDA] at h; cases h
          | tup h => rw [e2, hDA] at h; cases h
    rintro σ' HH ⟨rfl, F1, ro, eD, lF1, pF1, hwH, hlH, hkH⟩
    clear hwl hwA hwG pF e5 t5 S5' hlG lF
    have gall := good_all gl
    have nw := fun H' : Hp => nm_word (H := H') hnm
    have lnz := fun H' : Hp => lns_good (H := H') gl.good
    have dne : ∀ i : Int, (!decide (V.int i = V.int i)) = false := fun i => by rw [decide_eq_true rfl]; rfl
    have zl : ((ts.map lineS).map V.str).length ≤ 100 := by rw [hll]; omega
    refine ⟨_, rfl, _, rfl, l, _, true, _, ts.map some, rfl, hlH, zl, nw _, lnz _, fun HI sI => ⟨_, rfl, rfl, false, congrArg V.bl (by rw [at_good gall]; exact dne _), iteF ?_⟩⟩
    refine ⟨_, rfl, _, rfl, D, _, true, _, _, rfl, sI _ _ eD, by omega, nw _, pF1 _ (hwH.same sI), fun HJ sJ => ⟨_, rfl, rfl, false, congrArg V.bl (by rw [at_in hn]; exact dne _), iteF ?_⟩⟩
    have sIJ := sI.trans sJ
    refine ⟨_, rfl, _, rfl, D, _, true, _, _, rfl, sIJ _ _ eD, by omega, nw _, pF1 _ (hwH.same sIJ), fun HK sK => ⟨_, rfl, rfl, false, congrArg V.bl (by rw [at_in hn]; exact dne _), iteF ?_⟩⟩
    have sIK := sIJ.trans sK
    -- one line ahead
    have ahead : ∀ (x : Str) (H' : Hp) (l2 : Addr), (∀ H : Hp, LnE H (.str x) none) → Same HH H' → H' l2 = none → Paired (LnE (upd H' l2 (.lst ([V.str x] ++ (ts.map lineS).map V.str)))) ([V.str x] ++ (ts.map lineS).map V.str) (none :: ts.map some) := fun x H' l2 hx _ _ => .cons (hx _) (lnz _)
    have lahead : ∀ x : Str, ([V.str x] ++ (ts.map lineS).map V.str).length ≤ 10 := fun x => by rw [List.length_append, hll]; show 1 + ts.length ≤ 10; omega
    -- the barred words
    refine ⟨by show 14 ≤ sizeLine; decide, fun q hq => ?_⟩
    rw [show ([.str "hold", .str "look", .str "do", .str "row", .str "one", .str "all", .str "new", .str "give", .str "take", .str "join", .str "other", .str "if", .str "and", .str "or"] : List V) = L14.map V.str from rfl]
    have sL := sIK.trans (Same.new (o := .lst (L14.map V.str)) hq)
    have eq0 := upd_same (H := HK) (a := q) (o := .lst (L14.map V.str))
    generalize upd HK q (.lst (L14.map V.str)) = HL at sL eq0 ⊢
    refine ⟨q, rfl, ⟨_, SqL.of eq0⟩, ?_⟩
    refine for_list (K := K) (fun i σ' H' => (∃ x9 x10, σ' = [some (.ref sc), some (.ref p), some (.str nm), some (.ref kl), some (.ref l), some (.ref R), some wv, some (.int (n : Int)), some (.ref D), x9, x10, none]) ∧ Same HH H' ∧ Same HL H') ⟨⟨_, _, rfl⟩, sL, Same.refl _⟩ (fun i σ' H' _ hp => SqL.of (hp.2.2 _ _ eq0)) ?_ ?_
    · rintro i x σ' H' hx ⟨⟨x9, x10, rfl⟩, sH, sH2⟩
      obtain ⟨z, mz, rfl⟩ : ∃ z ∈ L14, x = V.str z := by
        obtain ⟨z, mz, e⟩ := List.mem_map.mp (List.mem_of_getElem? hx)
        exact ⟨z, mz, e.symm⟩
      have zlen := (l14_ok z mz).2
      have hX := l14 mz
      refine ⟨_, rfl, _, _, rfl, rfl, by rw [show (("look " : String) : Str).length = 5 from rfl]; omega, _, _, rfl, rfl, by rw [strLen_append, show (("look " : String) : Str).length = 5 from rfl, show ((" = 1" : String) : Str).length = 4 from rfl]; omega, _, rfl, _, _, rfl, rfl, by rw [show (("do new " : String) : Str).length = 7 from rfl]; omega,
        _, rfl, _, _, rfl, rfl, by rw [show (("do all " : String) : Str).length = 7 from rfl]; omega, _, _, rfl, rfl, by rw [strLen_append, show (("do all " : String) : Str).length = 7 from rfl, show ((" -> gone" : String) : Str).length = 8 from rfl]; omega, _, rfl, _, _, rfl, rfl, by rw [show (("look row " : String) : Str).length = 9 from rfl]; omega, by show 4 ≤ sizeLine; decide, fun q2 hq2 => ?_⟩
      generalize hXs : ([(("look " : String) : Str) ++ z ++ " = 1", (("do new " : String) : Str) ++ z, (("do all " : String) : Str) ++ z ++ " -> gone", (("look row " : String) : Str) ++ z] : List Str) = Xs at hX
      rw [show ([.str ((("look " : String) : Str) ++ z ++ " = 1"), .str ((("do new " : String) : Str) ++ z), .str ((("do all " : String) : Str) ++ z ++ " -> gone"), .str ((("look row " : String) : Str) ++ z)] : List V) = Xs.map V.str by rw [← hXs]; rfl]
      have sM := Same.new (o := .lst (Xs.map V.str)) hq2
      have eq2 := upd_same (H := H') (a := q2) (o := .lst (Xs.map V.str))
      generalize upd H' q2 (.lst (Xs.map V.str)) = HM at sM eq2 ⊢
      refine ⟨q2, rfl, ⟨_, SqL.of eq2⟩, ?_⟩
      refine for_list (K := K) (fun i σ'' H'' => (∃ x10, σ'' = [some (.ref sc), some (.ref p), some (.str nm), some (.ref kl), some (.ref l), some (.ref R), some wv, some (.int (n : Int)), some (.ref D), some (.str z), x10, none]) ∧ Same HM H'') ⟨⟨_, rfl⟩, Same.refl _⟩ (fun i σ'' H'' _ hp => SqL.of (hp.2 _ _ eq2)) ?_ ?_
      · rintro j y σ'' H'' hy ⟨⟨x10, rfl⟩, sN⟩
        obtain ⟨u, mu, rfl⟩ : ∃ u ∈ Xs, y = V.str u := by
          obtain ⟨u, mu, e⟩ := List.mem_map.mp (List.mem_of_getElem? hy)
          exact ⟨u, mu, e.symm⟩
        have sT := (sH.trans sM).trans sN
        refine ⟨_, rfl, _, rfl, by show 1 ≤ sizeLine; decide, fun l1 hl1 => ?_⟩
        have sU := Same.new (o := .lst [.str u]) hl1
        refine ⟨_, rfl, l1, l, _, _, rfl, rfl, upd_same, (sT.trans sU) _ _ hlH, Nat.le_trans (show 1 + ((ts.map lineS).map V.str).length ≤ 10 by rw [hll]; omega) (by decide), fun l2 hl2 => ?_⟩
        refine ⟨l2, _, true, _, none :: ts.map some, rfl, upd_same, Nat.le_trans (lahead u) (by decide), nw _, ahead u _ l2 (hX u mu) (sT.trans sU) hl2, fun HV sV => ⟨rfl, false, congrArg V.bl (by rw [at_first]; exact dne _), iteF ⟨⟨_, rfl⟩, ((sN.trans sU).trans (Same.new hl2)).trans sV⟩⟩⟩
      · rintro σ'' H'' ⟨⟨x10, rfl⟩, sN⟩
        exact ⟨⟨_, _, rfl⟩, (sH.trans sM).trans sN, (sH2.trans sM).trans sN⟩
    rintro σ' HN ⟨⟨x9, x10, rfl⟩, sHN, _⟩
    -- four more
    have hkN := sHN _ _ hkH
    have hX := l4 ha kb hb hab
    refine ⟨_, rfl, kl, _, (0 : Int), _, rfl, rfl, SqL.of hkN, atI_nat (j := 0) rfl, _, _, rfl, rfl, by rw [show (("do take gone -> " : String) : Str).length = 16 from rfl]; omega, _, rfl, kl, _, (0 : Int), _, rfl, rfl, SqL.of hkN, atI_nat (j := 0) rfl, _, _, rfl, rfl, by rw [show (("do row " : String) : Str).length = 7 from rfl]; omega,
      _, _, rfl, rfl, by rw [strLen_append, show (("do row " : String) : Str).length = 7 from rfl, show ((" -> then" : String) : Str).length = 8 from rfl]; omega, by show 4 ≤ sizeLine; decide, fun q2 hq2 => ?_⟩
    generalize hXs : ([(("look then = 1" : String) : Str), (("do new then" : String) : Str), (("do take gone -> " : String) : Str) ++ ka, (("do row " : String) : Str) ++ ka ++ " -> then"] : List Str) = Xs at hX
    rw [show ([.str "look then = 1", .str "do new then", .str ((("do take gone -> " : String) : Str) ++ ka), .str ((("do row " : String) : Str) ++ ka ++ " -> then")] : List V) = Xs.map V.str by rw [← hXs]; rfl]
    have sM := Same.new (o := .lst (Xs.map V.str)) hq2
    have eq2 := upd_same (H := HN) (a := q2) (o := .lst (Xs.map V.str))
    generalize upd HN q2 (.lst (Xs.map V.str)) = HM at sM eq2 ⊢
    refine ⟨q2, rfl, ⟨_, SqL.of eq2⟩, ?_⟩
    refine for_list (K := K) (fun i σ'' H'' => (∃ x10, σ'' = [some (.ref sc), some (.ref p), some (.str nm), some (.ref kl), some (.ref l), some (.ref R), some wv, some (.int (n : Int)), some (.ref D), x9, x10, none]) ∧ Same HM H'') ⟨⟨_, rfl⟩, Same.refl _⟩ (fun i σ'' H'' _ hp => SqL.of (hp.2 _ _ eq2)) ?_ ?_
    · rintro j y σ'' H'' hy ⟨⟨x10, rfl⟩, sN⟩
      obtain ⟨u, mu, rfl⟩ : ∃ u ∈ Xs, y = V.str u := by
        obtain ⟨u, mu, e⟩ := List.mem_map.mp (List.mem_of_getElem? hy)
        exact ⟨u, mu, e.symm⟩
      have sT := (sHN.trans sM).trans sN
      refine ⟨_, rfl, _, rfl, by show 1 ≤ sizeLine; decide, fun l1 hl1 => ?_⟩
      have sU := Same.new (o := .lst [.str u]) hl1
      refine ⟨_, rfl, l1, l, _, _, rfl, rfl, upd_same, (sT.trans sU) _ _ hlH, Nat.le_trans (show 1 + ((ts.map lineS).map V.str).length ≤ 10 by rw [hll]; omega) (by decide), fun l2 hl2 => ?_⟩
      refine ⟨l2, _, true, _, none :: ts.map some, rfl, upd_same, Nat.le_trans (lahead u) (by decide), nw _, ahead u _ l2 (hX u mu) (sT.trans sU) hl2, fun HV sV => ⟨rfl, false, congrArg V.bl (by rw [at_first]; exact dne _), iteF ⟨⟨_, rfl⟩, ((sN.trans sU).trans (Same.new hl2)).trans sV⟩⟩⟩
    rintro σ'' HO1 ⟨⟨x10, rfl⟩, sN⟩
    have sO := (sHN.trans sM).trans sN
    have hlO := sO _ _ hlH
    have hwO := hwH.same sO
    -- replaced
    refine ⟨_, rfl, _, rfl, _, rfl, l, _, rfl, SqL.of hlO, fun q1 hq1 => ?_⟩
    rw [cutL]
    have t1 := Same.new (o := .lst (((ts.take n).map lineS).map V.str)) hq1
    have e1 := upd_same (H := HO1) (a := q1) (o := .lst (((ts.take n).map lineS).map V.str))
    generalize upd HO1 q1 (.lst (((ts.take n).map lineS).map V.str)) = HB at t1 e1 ⊢
    refine ⟨_, rfl, by show 1 ≤ sizeLine; decide, fun q2 hq2 => ?_⟩
    have t2 := t1.trans (Same.new (o := .lst [wv]) hq2)
    have e1 := Same.new (o := .lst [wv]) hq2 _ _ e1
    have e2 := upd_same (H := HB) (a := q2) (o := .lst [wv])
    generalize upd HB q2 (.lst [wv]) = HC at t2 e1 e2 ⊢
    refine ⟨q1, q2, _, _, rfl, rfl, e1, e2, Nat.le_trans (Nat.add_le_add (lT n) (Nat.le_refl 1)) (by decide), fun q3 hq3 => ?_⟩
    have t3 := t2.trans (Same.new (o := .lst (((ts.take n).map lineS).map V.str ++ [wv])) hq3)
    have e3 := upd_same (H := HC) (a := q3) (o := .lst (((ts.take n).map lineS).map V.str ++ [wv]))
    generalize upd HC q3 (.lst (((ts.take n).map lineS).map V.str ++ [wv])) = HD at t3 e3 ⊢
    refine ⟨_, rfl, _, rfl, _, _, rfl, rfl, _, rfl, l, _, rfl, SqL.of (t3 _ _ hlO), fun q4 hq4 => ?_⟩
    rw [show ((n : Int) + 1) = ((n + 1 : Nat) : Int) by omega, cutR]
    have t4 := t3.trans (Same.new (o := .lst (((ts.drop (n + 1)).map lineS).map V.str)) hq4)
    have e3 := Same.new (o := .lst (((ts.drop (n + 1)).map lineS).map V.str)) hq4 _ _ e3
    have e4 := upd_same (H := HD) (a := q4) (o := .lst (((ts.drop (n + 1)).map lineS).map V.str))
    generalize upd HD q4 (.lst (((ts.drop (n + 1)).map lineS).map V.str)) = HE at t4 e3 e4 ⊢
    refine ⟨q3, q4, _, _, rfl, rfl, e3, e4, Nat.le_trans (Nat.add_le_add l7 (lD (n + 1))) (by decide), fun D2 hD2 => ?_⟩
    have t5 := t4.trans (Same.new (o := .lst (((ts.take n).map lineS).map V.str ++ [wv] ++ ((ts.drop (n + 1)).map lineS).map V.str)) hD2)
    refine ⟨_, rfl, _, rfl, D2, _, true, _, (ts.take n).map some ++ none :: (ts.drop (n + 1)).map some, rfl, upd_same, by rw [List.length_append]; exact Nat.le_trans (Nat.add_le_add l7 (lD (n + 1))) (by decide), nw _, ?_, fun HV sV => ⟨_, rfl, rfl, true, congrArg V.bl (by rw [at_in hn]; exact decide_eq_true rfl), iteT ?_⟩⟩
    · have q : Paired (LnE _) (((ts.take n).map lineS).map V.str ++ ([wv] ++ ((ts.drop (n + 1)).map lineS).map V.str)) _ := paired_app (pT n _) (.cons (hwO.same t5) (pD (n + 1) _))
      rw [← List.append_assoc] at q
      exact q
    refine ⟨_, rfl, _, rfl, l, _, true, _, ts.map some, rfl, ((sO.trans t5).trans sV) _ _ hlH, zl, nw _, lnz _, fun HW sW => ⟨_, rfl, rfl, ?_⟩⟩
    have z := kQ HW
    rw [← decide_eq_true (show V.int (-5) = V.int (-5) from rfl)] at z
    rw [at_good gall]
    exact z
end
end Dr

set_option Elab.async false
set_option linter.all false
set_option maxRecDepth 100000
set_option maxHeartbeats 4000000
/-! The head by one kernel run: what the top has left, told by a list of tests and by the defs' objects. -/
namespace Cs
open PySem PySem.Spec PyProof.Rows L2
abbrev Fr := PySem.W.Frag
/-- what an object of the top names (nothing of codes, of the classes above) -/
def refsK (o : Obj) : List Addr := match o.data with
  | .dict es _ => es.toList.flatMap fun e => He.refV e.val
  | .func fd => He.refV fd.code ++ (He.refV fd.defaults ++ fd.closure.map (·.2))
  | .cls cd => [cd.ns]
  | .seq its _ => its.toList.flatMap He.refV
  | .fields vs => (match o.cls with
    | .type t => if t = "code" then [] else vs.toList.flatMap He.refV
    | _ => [])
  | _ => []
def stepK (g : Addr → Option Obj) (as : List Addr) : List Addr := as.flatMap fun a => match g a with
  | some o => refsK o
  | none => []
def asK (g : Addr → Option Obj) : Nat → List Addr → List Addr
  | 0, as => as
  | n + 1, as => as ++ asK g n (stepK g as)
def KG (n : Nat) (g : Addr → Option Obj) : Fr := He.frG g (cStatics :: asK g n [mainGlobals])
theorem KG_in {n : Nat} {h : Heap} : (KG n h.get?).In h := He.frG_in
abbrev FnT : Type := Option (Str × Str × Arguments × FuncBody × Scope × Addr × List Str × Addr)
def fnT (K : Fr) (a : Addr) : FnT := match K.lookup a with
  | some ⟨_, _, .func fd, _⟩ => some (fd.name, fd.qualname, fd.params, fd.body, fd.scope, fd.globals, fd.closure.map (·.1), fd.builtins)
  | _ => none
/-- a def: its address by the top's names, its names, its statement, the names of its cells -/
structure FnA where
  at_ : Fr → Addr
  name : Str
  qual : Str
  st : Stmt
  cl : List Str
  df : Bool := false
def FnA.val (d : FnA) : FnT := some (d.name, d.qual, defArgs d.st, .stmts (defBody d.st), defScope d.st, mainGlobals, d.cl, builtinsNs)
def noneB : Value → Bool
  | .none => true
  | _ => false
theorem noneB_ok {v : Value} (h : noneB v = true) : v = .none := by
  cases v with
  | none => rfl
  | _ => cases h
/-- no defaults (unless df); its code object -/
def fnB (K : Fr) (a : Addr) (q : Str) (df : Bool) : Bool := match K.lookup a with
  | some ⟨_, _, .func fd, _⟩ => (df || noneB fd.defaults) && PySem.W.codeIn K fd.code q
  | _ => false
abbrev AlK : Type := Bool × List FnT
def obsK (cks : List (Fr → Bool)) (fns : List FnA) (K : Fr) : AlK := ((cks.all fun f => f K) && fns.all fun d => fnB K (d.at_ K) d.qual d.df, fns.map fun d => fnT K (d.at_ K))
def valK (fns : List FnA) : AlK := (true, fns.map FnA.val)
def SaysK (cks : List (Fr → Bool)) (fns : List FnA) (K : Fr) : Prop := obsK cks fns K = valK fns
def obsKG (n : Nat) (cks : List (Fr → Bool)) (fns : List FnA) (g : Addr → Option Obj) : AlK := obsK cks fns (KG n g)
def hookK (n : Nat) (cks : List (Fr → Bool)) (fns : List FnA) : PySem.W.Hook where
  α := AlK
  obs := fun s => obsKG n cks fns s.heap.get?
  val := fun _ => valK fns
  says := fun _ h => ∃ K : Fr, K.In h ∧ SaysK cks fns K
  of := fun _ _ e => ⟨_, KG_in, e⟩
  keeps := fun _ _ _ ⟨K, hK, c⟩ k => ⟨K, PySem.W.Frag.In.keeps hK k, c⟩
theorem obsKG_eq {n : Nat} {cks : List (Fr → Bool)} {fns : List FnA} {g : Addr → Option Obj} {s : Shared} (h : ∀ a, g a = s.heap.get? a) : obsKG n cks fns g = (hookK n cks fns).obs s := by
  have e : g = s.heap.get? := funext h
  rw [e] <;> rfl
section
variable {cks : List (Fr → Bool)} {fns : List FnA} {K : Fr}
theorem SaysK.ck (c : SaysK cks fns K) (i : Nat) {f : Fr → Bool} (h : cks[i]? = some f := by rfl) : f K = true := by
  have c1 := (Bool.and_eq_true_iff.mp (show ((cks.all fun f => f K) && fns.all fun d => fnB K (d.at_ K) d.qual d.df) = true from congrArg (fun z : AlK => z.1) c)).1
  exact List.all_eq_true.mp c1 f (List.mem_of_getElem? h)
theorem SaysK.fb (c : SaysK cks fns K) (i : Nat) {d : FnA} (h : fns[i]? = some d) : fnB K (d.at_ K) d.qual d.df = true := by
  have c1 := (Bool.and_eq_true_iff.mp (show ((cks.all fun f => f K) && fns.all fun d => fnB K (d.at_ K) d.qual d.df) = true from congrArg (fun z : AlK => z.1) c)).2
  exact List.all_eq_true.mp c1 d (List.mem_of_getElem? h)
theorem SaysK.ft (c : SaysK cks fns K) (i : Nat) {d : FnA} (h : fns[i]? = some d) : fnT K (d.at_ K) = d.val := by
  have e : (fns.map fun d => fnT K (d.at_ K)) = fns.map FnA.val := congrArg (fun z : AlK => z.2) c
  have e2 : (fns.map fun d => fnT K (d.at_ K))[i]? = (fns.map FnA.val)[i]? := by rw [e]
  rw [List.getElem?_map, List.getElem?_map, h] at e2
  exact Option.some.inj e2
theorem fn_gen {d : FnA} (e : fnT K (d.at_ K) = d.val) (c : fnB K (d.at_ K) d.qual d.df = true) : ∃ oc od osl cl dV kV doc pm an cdv ct, cl.map (·.1) = d.cl ∧ K.lookup (d.at_ K) = some ⟨oc, od, .func (PySem.W.fnX d.name d.qual (defArgs d.st) (defBody d.st) (defScope d.st) cl dV kV doc pm an cdv ct), osl⟩ ∧ PySem.W.codeIn K cdv d.qual = true ∧ (d.df = false → dV = .none) := by
  unfold fnT at e
  unfold fnB at c
  cases q : K.lookup (d.at_ K) with
  | none =>
    rw [q] at c
    cases c
  | some o =>
    obtain ⟨oc, od, dt, osl⟩ := o
    rw [q] at c e
    cases dt with
    | func fd =>
      obtain ⟨n1, n2, n3, n4, n5, n6, n7, n8, n9, n10, n11, n12, n13, n14, n15⟩ := fd
      have e2 : (some (n1, n2, n3, n4, n5, n6, n7.map (·.1), n15) : FnT) = some (d.name, d.qual, defArgs d.st, .stmts (defBody d.st), defScope d.st, mainGlobals, d.cl, builtinsNs) := e
      simp only [Option.some.injEq, Prod.mk.injEq] at e2
      obtain ⟨h1, h2, h3, h4, h5, h6, h7, h8⟩ := e2
      obtain ⟨c1, c2⟩ := Bool.and_eq_true_iff.mp (show ((d.df || noneB n8) && PySem.W.codeIn K n13 d.qual) = true from c)
      subst h1 h2 h3 h4 h5 h6 h8
      refine ⟨oc, od, osl, n7, n8, n9, n10, n11, n12, n13, n14, h7, rfl, c2, fun h => ?_⟩
      rw [h, Bool.false_or] at c1
      exact noneB_ok c1
    | _ => cases c
theorem fn_any {d : FnA} (hd : d.df = false) (e : fnT K (d.at_ K) = d.val) (c : fnB K (d.at_ K) d.qual d.df = true) : ∃ oc od osl cl kV doc pm an cdv ct, cl.map (·.1) = d.cl ∧ K.lookup (d.at_ K) = some ⟨oc, od, .func (PySem.W.fnX d.name d.qual (defArgs d.st) (defBody d.st) (defScope d.st) cl .none kV doc pm an cdv ct), osl⟩ ∧ PySem.W.codeIn K cdv d.qual = true := by
  obtain ⟨oc, od, osl, cl, dV, kV, doc, pm, an, cdv, ct, e1, l, k, z⟩ := fn_gen e c
  obtain rfl := z hd
  exact ⟨oc, od, osl, cl, kV, doc, pm, an, cdv, ct, e1, l, k⟩
theorem SaysK.fn (c : SaysK cks fns K) (i : Nat) {d : FnA} (h : fns[i]? = some d) (hc : d.cl = []) (hd : d.df = false := by rfl) : ∃ oc od osl kV doc pm an cdv ct, K.lookup (d.at_ K) = some ⟨oc, od, .func (PySem.W.fnOf d.name d.qual (defArgs d.st) (defBody d.st) (defScope d.st) .none kV doc pm an cdv ct), osl⟩ ∧ PySem.W.codeIn K cdv d.qual = true := by
  obtain ⟨oc, od, osl, cl, kV, doc, pm, an, cdv, ct, e, l, k⟩ := fn_any hd (c.ft i h) (c.fb i h)
  rw [hc] at e
  obtain rfl := List.map_eq_nil_iff.mp e
  exact ⟨oc, od, osl, kV, doc, pm, an, cdv, ct, l, k⟩
/-- a def with defaults -/
theorem SaysK.fnD (c : SaysK cks fns K) (i : Nat) {d : FnA} (h : fns[i]? = some d) (hc : d.cl = []) : ∃ oc od osl dV kV doc pm an cdv ct, K.lookup (d.at_ K) = some ⟨oc, od, .func (PySem.W.fnOf d.name d.qual (defArgs d.st) (defBody d.st) (defScope d.st) dV kV doc pm an cdv ct), osl⟩ ∧ PySem.W.codeIn K cdv d.qual = true := by
  obtain ⟨oc, od, osl, cl, dV, kV, doc, pm, an, cdv, ct, e, l, k, _⟩ := fn_gen (c.ft i h) (c.fb i h)
  rw [hc] at e
  obtain rfl := List.map_eq_nil_iff.mp e
  exact ⟨oc, od, osl, dV, kV, doc, pm, an, cdv, ct, l, k⟩
def dflL (K : Fr) (a : Addr) : Option (List Value) := match K.lookup a with
  | some ⟨_, _, .func fd, _⟩ => (match fd.defaults with
    | .ref T => (match K.lookup T with
      | some ⟨_, _, .seq its _, _⟩ => some its.toList
      | _ => none)
    | _ => none)
  | _ => none
def dflA (K : Fr) (a : Addr) : Addr := match dflL K a with
  | some (.ref e :: _) => e
  | _ => 0
def relB : V → Value → Bool
  | .ref a, .ref b => decide (a = b)
  | .non, .none => true
  | _, _ => false
theorem relB_ok {x : V} {u : Value} (h : relB x u = true) : RelV x u := by
  unfold relB at h
  split at h
  · rw [of_decide_eq_true h]; rfl
  · rfl
  · cases h
def relsB : List V → List Value → Bool
  | [], [] => true
  | x :: xs, u :: us => relB x u && relsB xs us
  | _, _ => false
theorem relsB_ok : ∀ {xs : List V} {us : List Value}, relsB xs us = true → Vals xs us
  | [], [], _ => .nil
  | x :: xs, u :: us, h => by
    obtain ⟨h1, h2⟩ := Bool.and_eq_true_iff.mp (show (relB x u && relsB xs us) = true from h)
    exact .cons (relB_ok h1) (relsB_ok h2)
  | [], _ :: _, h => by cases h
  | _ :: _, [], h => by cases h
def dflB (K : Fr) (a : Addr) (ds : List V) : Bool := !ds.isEmpty && match dflL K a with
  | some us => relsB ds us
  | none => false
theorem dflB_ok {a : Addr} {ds : List V} {oc : Value} {od : Option Addr} {fd : FuncData} {sl : Array (Option Value)} (h : dflB K a ds = true) (l : K.lookup a = some ⟨oc, od, .func fd, sl⟩) : DflV K fd.defaults ds := by
  obtain ⟨h1, h2⟩ := Bool.and_eq_true_iff.mp h
  unfold dflL at h2
  rw [l] at h2
  dsimp only at h2
  refine .inr ⟨(fun e => by rw [e] at h1; cases h1), ?_⟩
  generalize fd.defaults = dv at h2
  split at h2
  · rename_i us eu
    split at eu
    · rename_i T
      split at eu
      · rename_i o1 o2 its n o3 eo
        cases eu
        exact ⟨T, _, its.toList, n, rfl, eo, by rw [Array.toArray_toList], relsB_ok h2⟩
      · cases eu
    · cases eu
  · cases h2
/-- the empty tuple -/
def nilB (K : Fr) (e : Addr) : Bool := match K.lookup e with
  | some ⟨.type t, _, .seq its _, _⟩ => decide (t = "tuple") && its.toList.isEmpty
  | _ => false
theorem nilB_ok {e : Addr} (h : nilB K e = true) : ∀ H : Hp, SqT K H e [] := fun H => by
  unfold nilB at h
  split at h
  · rename_i t dd its n sl l
    obtain ⟨h1, h2⟩ := Bool.and_eq_true_iff.mp h
    obtain rfl := of_decide_eq_true h1
    have e2 : its.toList = [] := List.isEmpty_iff.mp h2
    have e3 : its.size = 0 := by rw [← Array.length_toList, e2]; rfl
    exact .inr ⟨_, its, n, l, rfl, rfl, by rw [e3]; exact Nat.zero_le _, by rw [e2]; exact .nil⟩
  · cases h
/-- the cell of the class, the file of the code -/
def cellB (K : Fr) (cl : List (Str × Addr)) (C : Addr) : Bool := match cl with
  | [(_, cc)] => (match K.lookup cc with
    | some ⟨_, _, .cell (some (.ref D)), _⟩ => decide (D = C)
    | _ => false)
  | _ => false
def fileB (K : Fr) (cdv : Value) (file : Str) : Bool := match cdv with
  | .ref cd => (match K.lookup cd with
    | some ⟨_, _, .fields vs, _⟩ => (match (vs[2]? : Option Value) with
      | some (.str z _) => file == z
      | _ => false)
    | _ => false)
  | _ => false
theorem cellB_ok {z : Str} {cc C : Addr} (h : cellB K [(z, cc)] C = true) : ∃ cl cld csl, K.lookup cc = some ⟨cl, cld, .cell (some (.ref C)), csl⟩ := by
  unfold cellB at h
  dsimp only at h
  split at h
  · rename_i hl
    rw [of_decide_eq_true h] at hl
    exact ⟨_, _, _, hl⟩
  · cases h
theorem fileB_ok {cdv : Value} {file : Str} (h : fileB K cdv file = true) : ∃ cd, cdv = .ref cd ∧ ∃ ccl cdd vs ccs fl tf, K.lookup cd = some ⟨ccl, cdd, .fields vs, ccs⟩ ∧ vs[2]? = some (.str fl tf) ∧ (file == fl) = true := by
  unfold fileB at h
  split at h
  · rename_i cd
    split at h
    · rename_i hl
      split at h
      · rename_i hv
        exact ⟨cd, rfl, _, _, _, _, _, _, hl, hv, h⟩
      · cases h
    · cases h
  · cases h
def supB (K : Fr) (a C : Addr) (file : Str) : Bool := match K.lookup a with
  | some ⟨_, _, .func fd, _⟩ => cellB K fd.closure C && fileB K fd.code file
  | _ => false
theorem SaysK.fs (c : SaysK cks fns K) (i : Nat) {d : FnA} {C : Addr} {file : Str} (h : fns[i]? = some d) (hc : d.cl = ([(("__class__" : String) : Str)] : List Str)) (hs : supB K (d.at_ K) C file = true) (hd : d.df = false := by rfl) : ∃ oc od osl kV doc pm an cda ct cc, K.lookup (d.at_ K) = some ⟨oc, od, .func (PySem.W.ksFn d.name d.qual (defArgs d.st) (defBody d.st) (defScope d.st) .none kV doc pm an (.ref cda) ct cc), osl⟩ ∧ PySem.W.codeIn K (.ref cda) d.qual = true ∧
    (∃ cl cld csl, K.lookup cc = some ⟨cl, cld, .cell (some (.ref C)), csl⟩) ∧ ∃ ccl cdd vs ccs fl tf, K.lookup cda = some ⟨ccl, cdd, .fields vs, ccs⟩ ∧ vs[2]? = some (.str fl tf) ∧ (file == fl) = true := by
  obtain ⟨oc, od, osl, cl, kV, doc, pm, an, cdv, ct, e, l, k⟩ := fn_any hd (c.ft i h) (c.fb i h)
  rw [hc] at e
  match cl, e with
  | [(z, cc)], e =>
    obtain rfl : z = "__class__" := (List.cons.inj e).1
    unfold supB at hs
    rw [l] at hs
    obtain ⟨h1, h2⟩ := Bool.and_eq_true_iff.mp (show (cellB K [(("__class__" : Str), cc)] C && fileB K cdv file) = true from hs)
    obtain ⟨cd, rfl, h3⟩ := fileB_ok h2
    exact ⟨oc, od, osl, kV, doc, pm, an, cd, ct, cc, l, k, cellB_ok h1, h3⟩
end
/-! ### own errors, classmethods, texts and tuples of the top -/
def exoB (K : Fr) (C : Addr) : Bool := match K.lookup C with
  | some ⟨.type t, _, .cls cd, sl⟩ => decide (t = "type") && (match cd.mro, sl.toList with
    | .ref D :: bm, [_, _, _, _, some (.builtin n), _] => decide (D = C) && (decide (n = "ValueError.__new__") && (cd.hasDict && (!cd.hasDel && PySem.HandSPX.refsVE bm)))
    | _, _ => false)
  | _ => false
theorem exoB_ok {K : Fr} {C : Addr} (h : exoB K C = true) : ∃ nm q N bs bm sn sub ab col dd k0 k1 k2 k3 k5, K.lookup C = some (excClassObj nm q C N bs bm true sn sub ab col dd k0 k1 k2 k3 k5 "ValueError.__new__") ∧ PySem.HandSPX.refsVE bm = true := by
  unfold exoB at h
  split at h
  · rename_i t dd cd sl hl
    obtain ⟨h1, h2⟩ := Bool.and_eq_true_iff.mp h
    obtain rfl := of_decide_eq_true h1
    split at h2
    · rename_i D bm k0 k1 k2 k3 n k5 hm hs
      obtain ⟨h3, h4⟩ := Bool.and_eq_true_iff.mp h2
      obtain ⟨h5, h6⟩ := Bool.and_eq_true_iff.mp h4
      obtain ⟨h7, h8⟩ := Bool.and_eq_true_iff.mp h6
      obtain ⟨h9, h10⟩ := Bool.and_eq_true_iff.mp h8
      obtain rfl := of_decide_eq_true h3
      obtain rfl := of_decide_eq_true h5
      obtain ⟨nm, bs, mro, ns, qn, hd, sn, sb, ab, col, del⟩ := cd
      have hm2 : mro = .ref D :: bm := hm
      have h72 : hd = true := h7
      have h92 : (!del) = true := h9
      clear hm h7 h9 h6 h8 h4 h2 h
      subst hm2 h72
      cases del with
      | true => cases h92
      | false =>
      have es : sl = #[k0, k1, k2, k3, some (.builtin "ValueError.__new__"), k5] := by
        rw [← Array.toList_inj, hs]
      subst es
      exact ⟨nm, qn, ns, bs, bm, sn, sb, ab, col, dd, k0, k1, k2, k3, k5, hl, h10⟩
    · cases h2
  · cases h
/-- a text of the top -/
def strB (K : Fr) (x z : Str) : Bool := match PySem.W.nsIn K mainGlobals x with
  | some (some (.str y _)) => decide (y = z)
  | _ => false
theorem strB_ok {K : Fr} {x z : Str} (h : strB K x z = true) : ∃ tk, PySem.W.nsIn K mainGlobals x = some (some (.str z tk)) := by
  unfold strB at h
  split at h
  · rename_i y tk e
    rw [of_decide_eq_true h] at e
    exact ⟨tk, e⟩
  · cases h
/-- a classmethod of the class: the descriptor, the def behind it -/
def cmQ (K : Fr) (C : Addr) (m : Str) : Addr := match PySem.W.findIn K (.ref C) m with
  | some (some (.ref q)) => q
  | _ => 0
def cmF (K : Fr) (C : Addr) (m : Str) (T : String) : Addr := match PySem.W.recIn K (cmQ K C m) T with
  | some (.ref f :: _) => f
  | _ => 0
def cmR (K : Fr) (C : Addr) (m : Str) (T : String) : List Value := match PySem.W.recIn K (cmQ K C m) T with
  | some (_ :: r) => r
  | _ => []
def cmB (K : Fr) (C : Addr) (m : Str) : Bool := match PySem.W.findCls K (.ref C) (.type "type") m with
  | some (.get a b c d) => decide (a = .builtin "classmethod.__get__") && (decide (b = .ref (cmQ K C m)) && (decide (c = .none) && decide (d = .ref C)))
  | _ => false
theorem cmB_ok {K : Fr} {C : Addr} {m : Str} (h : cmB K C m = true) : PySem.W.findCls K (.ref C) (.type "type") m = some (.get (.builtin "classmethod.__get__") (.ref (cmQ K C m)) .none (.ref C)) := by
  unfold cmB at h
  split at h
  · rename_i a b c d e
    obtain ⟨h1, h2⟩ := Bool.and_eq_true_iff.mp h
    obtain ⟨h3, h4⟩ := Bool.and_eq_true_iff.mp h2
    obtain ⟨h5, h6⟩ := Bool.and_eq_true_iff.mp h4
    rw [of_decide_eq_true h1, of_decide_eq_true h3, of_decide_eq_true h5, of_decide_eq_true h6] at e
    exact e
  · cases h
theorem tup_at {K : Fr} {x : Str} {zs : List Str} (h : He.tupB K x (zs.map He.Dv.str) = true) : ∀ H : Hp, SqT K H (He.ga K x) (zs.map V.str) := fun H => by
  have z := He.tupB_ok h H
  rw [List.map_map] at z
  exact z
end Cs

set_option Elab.async false
set_option linter.all false
set_option maxRecDepth 100000
set_option maxHeartbeats 8000000
namespace Cs
open PySem L2 Dr
theorem fnR_of {P : Program} {w : World} {K : PySem.W.Frag} {mg : Str → Option Value} {base : Heap} {CX : CXT} {k : Nat} {f : Addr} {fd : FuncData} {ps : List Str} {sp : Sp} (F : FnOk P w K mg base CX k f fd ps sp) (hb : Binds K fd ps []) : FnR P w K mg base CX k f sp := by
  intro A outer s H us vs Q E hr e0 r h
  have hl : us.length = ps.length := by rw [← r.length]; exact F.len _ _ _ _ h
  have kin : K.In s.heap := e0.mod.kin.keeps fun b o e => (e0.bs b o e).1
  have hb' := hb s us kin (by rw [List.append_nil]; exact hl)
  rw [List.append_nil] at hb'
  exact F.run A outer s H ⟨us, []⟩ us vs Q E hr e0 hb' r h
theorem kitD_yes {K : PySem.W.Frag} {B C : Addr} (h1 : PySem.W.isClsIn K C = true) (h2 : PySem.W.typeIn K (.ref C) = some (.type "type")) (h : PySem.W.subIn K (.ref B) (.ref C) = some true) : PySem.W.kitOne K (.ref B) (.ref C) = some true := by
  cases e : (Value.ref B == Value.ref C) with
  | false => exact kit_by h1 h2 h e
  | true =>
    unfold PySem.W.kitOne
    rw [if_pos e]
theorem all_mk {l : PySem.W.OpenLaw} {w : World} {K : PySem.W.Frag} {h : Heap} {mg : Str → Option Value} {fa : Addr} (X : K.In h) (G : h.Ns mainGlobals mg) (hfa : mg "law" = some (.ref fa))
    {f_isword : Addr} {oc_isword kV_isword dc_isword pm_isword cd_isword ct_isword : Value} {od_isword an_isword : Option Addr} {sl_isword : Array (Option Value)}
    {f_distinct : Addr} {oc_distinct kV_distinct dc_distinct pm_distinct cd_distinct ct_distinct : Value} {od_distinct an_distinct : Option Addr} {sl_distinct : Array (Option Value)}
    {f_source : Addr} {oc_source kV_source dc_source pm_source cd_source ct_source : Value} {od_source an_source : Option Addr} {sl_source : Array (Option Value)}
    {f_mixed : Addr} {oc_mixed kV_mixed dc_mixed pm_mixed cd_mixed ct_mixed : Value} {od_mixed an_mixed : Option Addr} {sl_mixed : Array (Option Value)}
    {f_draw : Addr} {oc_draw kV_draw dc_draw pm_draw cd_draw ct_draw : Value} {od_draw an_draw : Option Addr} {sl_draw : Array (Option Value)}
    {f_word : Addr} {oc_word kV_word dc_word pm_word cd_word ct_word : Value} {od_word an_word : Option Addr} {sl_word : Array (Option Value)}
    {f_iskind : Addr} {oc_iskind kV_iskind dc_iskind pm_iskind cd_iskind ct_iskind : Value} {od_iskind an_iskind : Option Addr} {sl_iskind : Array (Option Value)}
    {f_spl : Addr} {oc_spl kV_spl dc_spl pm_spl cd_spl ct_spl : Value} {od_spl an_spl : Option Addr} {sl_spl : Array (Option Value)}
    {f_rk : Addr} {oc_rk kV_rk dc_rk pm_rk cd_rk ct_rk : Value} {od_rk an_rk : Option Addr} {sl_rk : Array (Option Value)}
    {f_dg : Addr} {oc_dg kV_dg dc_dg pm_dg cd_dg ct_dg : Value} {od_dg an_dg : Option Addr} {sl_dg : Array (Option Value)}
    {f_rt : Addr} {oc_rt kV_rt dc_rt pm_rt cd_rt ct_rt : Value} {od_rt an_rt : Option Addr} {sl_rt : Array (Option Value)}
    {f_rs : Addr} {oc_rs kV_rs dc_rs pm_rs cd_rs ct_rs : Value} {od_rs an_rs : Option Addr} {sl_rs : Array (Option Value)}
    {f_ra : Addr} {oc_ra kV_ra dc_ra pm_ra cd_ra ct_ra : Value} {od_ra an_ra : Option Addr} {sl_ra : Array (Option Value)}
    {f_rp : Addr} {oc_rp kV_rp dc_rp pm_rp cd_rp ct_rp : Value} {od_rp an_rp : Option Addr} {sl_rp : Array (Option Value)}
    {f_hm : Addr} {oc_hm kV_hm dc_hm pm_hm cd_hm ct_hm : Value} {od_hm an_hm : Option Addr} {sl_hm : Array (Option Value)}
    {f_ao : Addr} {oc_ao kV_ao dc_ao pm_ao cd_ao ct_ao : Value} {od_ao an_ao : Option Addr} {sl_ao : Array (Option Value)}
    {f_rd : Addr} {oc_rd kV_rd dc_rd pm_rd cd_rd ct_rd : Value} {od_rd an_rd : Option Addr} {sl_rd : Array (Option Value)}
    {f_rl : Addr} {oc_rl kV_rl dc_rl pm_rl cd_rl ct_rl : Value} {od_rl an_rl : Option Addr} {sl_rl : Array (Option Value)}
    {f_to : Addr} {oc_to kV_to dc_to pm_to cd_to ct_to : Value} {od_to an_to : Option Addr} {sl_to : Array (Option Value)}
    {f_po : Addr} {oc_po kV_po dc_po pm_po cd_po ct_po : Value} {od_po an_po : Option Addr} {sl_po : Array (Option Value)}
    {f_st : Addr} {oc_st kV_st dc_st pm_st cd_st ct_st : Value} {od_st an_st : Option Addr} {sl_st : Array (Option Value)}
    {f_sn : Addr} {oc_sn kV_sn dc_sn pm_sn cd_sn ct_sn : Value} {od_sn an_sn : Option Addr} {sl_sn : Array (Option Value)}
    {f_kind : Addr} {oc_kind kV_kind dc_kind pm_kind cd_kind ct_kind : Value} {od_kind an_kind : Option Addr} {sl_kind : Array (Option Value)}
    {f_kinds : Addr} {oc_kinds kV_kinds dc_kinds pm_kinds cd_kinds ct_kinds : Value} {od_kinds an_kinds : Option Addr} {sl_kinds : Array (Option Value)}
    {f_has : Addr} {oc_has kV_has dc_has pm_has cd_has ct_has : Value} {od_has an_has : Option Addr} {sl_has : Array (Option Value)}
    {f_some : Addr} {oc_some kV_some dc_some pm_some cd_some ct_some : Value} {od_some an_some : Option Addr} {sl_some : Array (Option Value)}
    {f_test : Addr} {oc_test kV_test dc_test pm_test cd_test ct_test : Value} {od_test an_test : Option Addr} {sl_test : Array (Option Value)}
    {f_part : Addr} {oc_part kV_part dc_part pm_part cd_part ct_part : Value} {od_part an_part : Option Addr} {sl_part : Array (Option Value)}
    {f_do : Addr} {oc_do kV_do dc_do pm_do cd_do ct_do : Value} {od_do an_do : Option Addr} {sl_do : Array (Option Value)}
    {f_lines : Addr} {oc_lines kV_lines dc_lines pm_lines cd_lines ct_lines : Value} {od_lines an_lines : Option Addr} {sl_lines : Array (Option Value)}
    {f_lat : Addr} {oc_lat kV_lat dc_lat pm_lat cd_lat ct_lat : Value} {od_lat an_lat : Option Addr} {sl_lat : Array (Option Value)}
    {f_f1 : Addr} {oc_f1 kV_f1 dc_f1 pm_f1 cd_f1 ct_f1 : Value} {od_f1 an_f1 : Option Addr} {sl_f1 : Array (Option Value)}
    {f_f2 : Addr} {oc_f2 kV_f2 dc_f2 pm_f2 cd_f2 ct_f2 : Value} {od_f2 an_f2 : Option Addr} {sl_f2 : Array (Option Value)}
    {f_each : Addr} {oc_each kV_each dc_each pm_each cd_each ct_each : Value} {od_each an_each : Option Addr} {sl_each : Array (Option Value)}
    {f_law : Addr} {oc_law kV_law dc_law pm_law cd_law ct_law : Value} {od_law an_law : Option Addr} {sl_law : Array (Option Value)}
    {Do : Addr}
    {Bd : Addr}
    {f_xbd : Addr} {oc_xbd kV_xbd dc_xbd pm_xbd cd_xbd ct_xbd : Value} {od_xbd an_xbd : Option Addr} {sl_xbd : Array (Option Value)}
    {q_dof : Addr} {r_dof : List Value}
    {f_dof : Addr} {oc_dof kV_dof dc_dof pm_dof cd_dof ct_dof : Value} {od_dof an_dof : Option Addr} {sl_dof : Array (Option Value)}
    {tk_LET : PySem.Tok}
    {tk_DIG : PySem.Tok}
    {rR : Addr}
    {rS rC : Addr}
    {f_riD : Addr} {oc_riD kV_riD dc_riD pm_riD cd_riD ct_riD : Value} {od_riD an_riD : Option Addr} {sl_riD : Array (Option Value)}
    {ce : Addr}
    (a_isword : PySem.W.nsIn K mainGlobals "is_word" = some (some (.ref f_isword)))
    (l_isword : K.lookup f_isword = some ⟨oc_isword, od_isword, .func (PySem.W.fnOf "is_word" "is_word" (defArgs s_is_word) (defBody s_is_word) (defScope s_is_word) .none kV_isword dc_isword pm_isword an_isword cd_isword ct_isword), sl_isword⟩)
    (c_isword : PySem.W.codeIn K cd_isword "is_word" = true)
    (k_isword : PySem.W.keepIn K (.ref f_isword) = true)
    (a_distinct : PySem.W.nsIn K mainGlobals "distinct" = some (some (.ref f_distinct)))
    (l_distinct : K.lookup f_distinct = some ⟨oc_distinct, od_distinct, .func (PySem.W.fnOf "distinct" "distinct" (defArgs s_distinct) (defBody s_distinct) (defScope s_distinct) .none kV_distinct dc_distinct pm_distinct an_distinct cd_distinct ct_distinct), sl_distinct⟩)
    (c_distinct : PySem.W.codeIn K cd_distinct "distinct" = true)
    (k_distinct : PySem.W.keepIn K (.ref f_distinct) = true)
    (a_source : PySem.W.nsIn K mainGlobals "_law_source" = some (some (.ref f_source)))
    (l_source : K.lookup f_source = some ⟨oc_source, od_source, .func (PySem.W.fnOf "_law_source" "_law_source" (defArgs s_l_source) (defBody s_l_source) (defScope s_l_source) .none kV_source dc_source pm_source an_source cd_source ct_source), sl_source⟩)
    (c_source : PySem.W.codeIn K cd_source "_law_source" = true)
    (k_source : PySem.W.keepIn K (.ref f_source) = true)
    (a_mixed : PySem.W.nsIn K mainGlobals "_law_mixed" = some (some (.ref f_mixed)))
    (l_mixed : K.lookup f_mixed = some ⟨oc_mixed, od_mixed, .func (PySem.W.fnOf "_law_mixed" "_law_mixed" (defArgs s_l_mixed) (defBody s_l_mixed) (defScope s_l_mixed) .none kV_mixed dc_mixed pm_mixed an_mixed cd_mixed ct_mixed), sl_mixed⟩)
    (c_mixed : PySem.W.codeIn K cd_mixed "_law_mixed" = true)
    (k_mixed : PySem.W.keepIn K (.ref f_mixed) = true)
    (a_draw : PySem.W.nsIn K mainGlobals "_law_draw" = some (some (.ref f_draw)))
    (l_draw : K.lookup f_draw = some ⟨oc_draw, od_draw, .func (PySem.W.fnOf "_law_draw" "_law_draw" (defArgs s_l_draw) (defBody s_l_draw) (defScope s_l_draw) .none kV_draw dc_draw pm_draw an_draw cd_draw ct_draw), sl_draw⟩)
    (c_draw : PySem.W.codeIn K cd_draw "_law_draw" = true)
    (k_draw : PySem.W.keepIn K (.ref f_draw) = true)
    (a_word : PySem.W.nsIn K mainGlobals "_law_word" = some (some (.ref f_word)))
    (l_word : K.lookup f_word = some ⟨oc_word, od_word, .func (PySem.W.fnOf "_law_word" "_law_word" (defArgs s_l_word) (defBody s_l_word) (defScope s_l_word) .none kV_word dc_word pm_word an_word cd_word ct_word), sl_word⟩)
    (c_word : PySem.W.codeIn K cd_word "_law_word" = true)
    (k_word : PySem.W.keepIn K (.ref f_word) = true)
    (a_iskind : PySem.W.nsIn K mainGlobals "is_kind" = some (some (.ref f_iskind)))
    (l_iskind : K.lookup f_iskind = some ⟨oc_iskind, od_iskind, .func (PySem.W.fnOf "is_kind" "is_kind" (defArgs s_is_kind) (defBody s_is_kind) (defScope s_is_kind) .none kV_iskind dc_iskind pm_iskind an_iskind cd_iskind ct_iskind), sl_iskind⟩)
    (c_iskind : PySem.W.codeIn K cd_iskind "is_kind" = true)
    (k_iskind : PySem.W.keepIn K (.ref f_iskind) = true)
    (a_spl : PySem.W.nsIn K mainGlobals "split_at" = some (some (.ref f_spl)))
    (l_spl : K.lookup f_spl = some ⟨oc_spl, od_spl, .func (PySem.W.fnOf "split_at" "split_at" (defArgs s_split_at) (defBody s_split_at) (defScope s_split_at) .none kV_spl dc_spl pm_spl an_spl cd_spl ct_spl), sl_spl⟩)
    (c_spl : PySem.W.codeIn K cd_spl "split_at" = true)
    (k_spl : PySem.W.keepIn K (.ref f_spl) = true)
    (a_rk : PySem.W.nsIn K mainGlobals "read_kinds" = some (some (.ref f_rk)))
    (l_rk : K.lookup f_rk = some ⟨oc_rk, od_rk, .func (PySem.W.fnOf "read_kinds" "read_kinds" (defArgs s_read_kinds) (defBody s_read_kinds) (defScope s_read_kinds) .none kV_rk dc_rk pm_rk an_rk cd_rk ct_rk), sl_rk⟩)
    (c_rk : PySem.W.codeIn K cd_rk "read_kinds" = true)
    (k_rk : PySem.W.keepIn K (.ref f_rk) = true)
    (a_dg : PySem.W.nsIn K mainGlobals "is_digit" = some (some (.ref f_dg)))
    (l_dg : K.lookup f_dg = some ⟨oc_dg, od_dg, .func (PySem.W.fnOf "is_digit" "is_digit" (defArgs s_is_digit) (defBody s_is_digit) (defScope s_is_digit) .none kV_dg dc_dg pm_dg an_dg cd_dg ct_dg), sl_dg⟩)
    (c_dg : PySem.W.codeIn K cd_dg "is_digit" = true)
    (k_dg : PySem.W.keepIn K (.ref f_dg) = true)
    (a_rt : PySem.W.nsIn K mainGlobals "read_test" = some (some (.ref f_rt)))
    (l_rt : K.lookup f_rt = some ⟨oc_rt, od_rt, .func (PySem.W.fnOf "read_test" "read_test" (defArgs s_read_test) (defBody s_read_test) (defScope s_read_test) .none kV_rt dc_rt pm_rt an_rt cd_rt ct_rt), sl_rt⟩)
    (c_rt : PySem.W.codeIn K cd_rt "read_test" = true)
    (k_rt : PySem.W.keepIn K (.ref f_rt) = true)
    (a_rs : PySem.W.nsIn K mainGlobals "read_tests" = some (some (.ref f_rs)))
    (l_rs : K.lookup f_rs = some ⟨oc_rs, od_rs, .func (PySem.W.fnOf "read_tests" "read_tests" (defArgs s_read_tests) (defBody s_read_tests) (defScope s_read_tests) .none kV_rs dc_rs pm_rs an_rs cd_rs ct_rs), sl_rs⟩)
    (c_rs : PySem.W.codeIn K cd_rs "read_tests" = true)
    (k_rs : PySem.W.keepIn K (.ref f_rs) = true)
    (a_ra : PySem.W.nsIn K mainGlobals "read_arrow" = some (some (.ref f_ra)))
    (l_ra : K.lookup f_ra = some ⟨oc_ra, od_ra, .func (PySem.W.fnOf "read_arrow" "read_arrow" (defArgs s_read_arrow) (defBody s_read_arrow) (defScope s_read_arrow) .none kV_ra dc_ra pm_ra an_ra cd_ra ct_ra), sl_ra⟩)
    (c_ra : PySem.W.codeIn K cd_ra "read_arrow" = true)
    (k_ra : PySem.W.keepIn K (.ref f_ra) = true)
    (a_rp : PySem.W.nsIn K mainGlobals "read_part" = some (some (.ref f_rp)))
    (l_rp : K.lookup f_rp = some ⟨oc_rp, od_rp, .func (PySem.W.fnOf "read_part" "read_part" (defArgs s_read_part) (defBody s_read_part) (defScope s_read_part) .none kV_rp dc_rp pm_rp an_rp cd_rp ct_rp), sl_rp⟩)
    (c_rp : PySem.W.codeIn K cd_rp "read_part" = true)
    (k_rp : PySem.W.keepIn K (.ref f_rp) = true)
    (a_hm : PySem.W.nsIn K mainGlobals "how_many" = some (some (.ref f_hm)))
    (l_hm : K.lookup f_hm = some ⟨oc_hm, od_hm, .func (PySem.W.fnOf "how_many" "how_many" (defArgs s_how_many) (defBody s_how_many) (defScope s_how_many) .none kV_hm dc_hm pm_hm an_hm cd_hm ct_hm), sl_hm⟩)
    (c_hm : PySem.W.codeIn K cd_hm "how_many" = true)
    (k_hm : PySem.W.keepIn K (.ref f_hm) = true)
    (a_ao : PySem.W.nsIn K mainGlobals "asks_other" = some (some (.ref f_ao)))
    (l_ao : K.lookup f_ao = some ⟨oc_ao, od_ao, .func (PySem.W.fnOf "asks_other" "asks_other" (defArgs s_asks_other) (defBody s_asks_other) (defScope s_asks_other) .none kV_ao dc_ao pm_ao an_ao cd_ao ct_ao), sl_ao⟩)
    (c_ao : PySem.W.codeIn K cd_ao "asks_other" = true)
    (k_ao : PySem.W.keepIn K (.ref f_ao) = true)
    (a_rd : PySem.W.nsIn K mainGlobals "read_do" = some (some (.ref f_rd)))
    (l_rd : K.lookup f_rd = some ⟨oc_rd, od_rd, .func (PySem.W.fnOf "read_do" "read_do" (defArgs s_read_do) (defBody s_read_do) (defScope s_read_do) .none kV_rd dc_rd pm_rd an_rd cd_rd ct_rd), sl_rd⟩)
    (c_rd : PySem.W.codeIn K cd_rd "read_do" = true)
    (k_rd : PySem.W.keepIn K (.ref f_rd) = true)
    (a_rl : PySem.W.nsIn K mainGlobals "read_line" = some (some (.ref f_rl)))
    (l_rl : K.lookup f_rl = some ⟨oc_rl, od_rl, .func (PySem.W.fnOf "read_line" "read_line" (defArgs s_read_line) (defBody s_read_line) (defScope s_read_line) .none kV_rl dc_rl pm_rl an_rl cd_rl ct_rl), sl_rl⟩)
    (c_rl : PySem.W.codeIn K cd_rl "read_line" = true)
    (k_rl : PySem.W.keepIn K (.ref f_rl) = true)
    (a_to : PySem.W.nsIn K mainGlobals "tests_of" = some (some (.ref f_to)))
    (l_to : K.lookup f_to = some ⟨oc_to, od_to, .func (PySem.W.fnOf "tests_of" "tests_of" (defArgs s_tests_of) (defBody s_tests_of) (defScope s_tests_of) .none kV_to dc_to pm_to an_to cd_to ct_to), sl_to⟩)
    (c_to : PySem.W.codeIn K cd_to "tests_of" = true)
    (k_to : PySem.W.keepIn K (.ref f_to) = true)
    (a_po : PySem.W.nsIn K mainGlobals "parts_of" = some (some (.ref f_po)))
    (l_po : K.lookup f_po = some ⟨oc_po, od_po, .func (PySem.W.fnOf "parts_of" "parts_of" (defArgs s_parts_of) (defBody s_parts_of) (defScope s_parts_of) .none kV_po dc_po pm_po an_po cd_po ct_po), sl_po⟩)
    (c_po : PySem.W.codeIn K cd_po "parts_of" = true)
    (k_po : PySem.W.keepIn K (.ref f_po) = true)
    (a_st : PySem.W.nsIn K mainGlobals "step_touches" = some (some (.ref f_st)))
    (l_st : K.lookup f_st = some ⟨oc_st, od_st, .func (PySem.W.fnOf "step_touches" "step_touches" (defArgs s_step_touches) (defBody s_step_touches) (defScope s_step_touches) .none kV_st dc_st pm_st an_st cd_st ct_st), sl_st⟩)
    (c_st : PySem.W.codeIn K cd_st "step_touches" = true)
    (k_st : PySem.W.keepIn K (.ref f_st) = true)
    (a_sn : PySem.W.nsIn K mainGlobals "step_names_row" = some (some (.ref f_sn)))
    (l_sn : K.lookup f_sn = some ⟨oc_sn, od_sn, .func (PySem.W.fnOf "step_names_row" "step_names_row" (defArgs s_step_names_row) (defBody s_step_names_row) (defScope s_step_names_row) .none kV_sn dc_sn pm_sn an_sn cd_sn ct_sn), sl_sn⟩)
    (c_sn : PySem.W.codeIn K cd_sn "step_names_row" = true)
    (k_sn : PySem.W.keepIn K (.ref f_sn) = true)
    (a_kind : PySem.W.nsIn K mainGlobals "_law_kind" = some (some (.ref f_kind)))
    (l_kind : K.lookup f_kind = some ⟨oc_kind, od_kind, .func (PySem.W.fnOf "_law_kind" "_law_kind" (defArgs s_l_kind) (defBody s_l_kind) (defScope s_l_kind) .none kV_kind dc_kind pm_kind an_kind cd_kind ct_kind), sl_kind⟩)
    (c_kind : PySem.W.codeIn K cd_kind "_law_kind" = true)
    (k_kind : PySem.W.keepIn K (.ref f_kind) = true)
    (a_kinds : PySem.W.nsIn K mainGlobals "_law_kinds" = some (some (.ref f_kinds)))
    (l_kinds : K.lookup f_kinds = some ⟨oc_kinds, od_kinds, .func (PySem.W.fnOf "_law_kinds" "_law_kinds" (defArgs s_l_kinds) (defBody s_l_kinds) (defScope s_l_kinds) .none kV_kinds dc_kinds pm_kinds an_kinds cd_kinds ct_kinds), sl_kinds⟩)
    (c_kinds : PySem.W.codeIn K cd_kinds "_law_kinds" = true)
    (k_kinds : PySem.W.keepIn K (.ref f_kinds) = true)
    (a_has : PySem.W.nsIn K mainGlobals "_law_has" = some (some (.ref f_has)))
    (l_has : K.lookup f_has = some ⟨oc_has, od_has, .func (PySem.W.fnOf "_law_has" "_law_has" (defArgs s_l_has) (defBody s_l_has) (defScope s_l_has) .none kV_has dc_has pm_has an_has cd_has ct_has), sl_has⟩)
    (c_has : PySem.W.codeIn K cd_has "_law_has" = true)
    (k_has : PySem.W.keepIn K (.ref f_has) = true)
    (a_some : PySem.W.nsIn K mainGlobals "_law_some" = some (some (.ref f_some)))
    (l_some : K.lookup f_some = some ⟨oc_some, od_some, .func (PySem.W.fnOf "_law_some" "_law_some" (defArgs s_l_some) (defBody s_l_some) (defScope s_l_some) .none kV_some dc_some pm_some an_some cd_some ct_some), sl_some⟩)
    (c_some : PySem.W.codeIn K cd_some "_law_some" = true)
    (k_some : PySem.W.keepIn K (.ref f_some) = true)
    (a_test : PySem.W.nsIn K mainGlobals "_law_test" = some (some (.ref f_test)))
    (l_test : K.lookup f_test = some ⟨oc_test, od_test, .func (PySem.W.fnOf "_law_test" "_law_test" (defArgs s_l_test) (defBody s_l_test) (defScope s_l_test) .none kV_test dc_test pm_test an_test cd_test ct_test), sl_test⟩)
    (c_test : PySem.W.codeIn K cd_test "_law_test" = true)
    (k_test : PySem.W.keepIn K (.ref f_test) = true)
    (a_part : PySem.W.nsIn K mainGlobals "_law_part" = some (some (.ref f_part)))
    (l_part : K.lookup f_part = some ⟨oc_part, od_part, .func (PySem.W.fnOf "_law_part" "_law_part" (defArgs s_l_part) (defBody s_l_part) (defScope s_l_part) .none kV_part dc_part pm_part an_part cd_part ct_part), sl_part⟩)
    (c_part : PySem.W.codeIn K cd_part "_law_part" = true)
    (k_part : PySem.W.keepIn K (.ref f_part) = true)
    (a_do : PySem.W.nsIn K mainGlobals "_law_do" = some (some (.ref f_do)))
    (l_do : K.lookup f_do = some ⟨oc_do, od_do, .func (PySem.W.fnOf "_law_do" "_law_do" (defArgs s_l_do) (defBody s_l_do) (defScope s_l_do) .none kV_do dc_do pm_do an_do cd_do ct_do), sl_do⟩)
    (c_do : PySem.W.codeIn K cd_do "_law_do" = true)
    (k_do : PySem.W.keepIn K (.ref f_do) = true)
    (a_lines : PySem.W.nsIn K mainGlobals "_law_lines" = some (some (.ref f_lines)))
    (l_lines : K.lookup f_lines = some ⟨oc_lines, od_lines, .func (PySem.W.fnOf "_law_lines" "_law_lines" (defArgs s_l_lines) (defBody s_l_lines) (defScope s_l_lines) .none kV_lines dc_lines pm_lines an_lines cd_lines ct_lines), sl_lines⟩)
    (c_lines : PySem.W.codeIn K cd_lines "_law_lines" = true)
    (k_lines : PySem.W.keepIn K (.ref f_lines) = true)
    (a_lat : PySem.W.nsIn K mainGlobals "_law_at" = some (some (.ref f_lat)))
    (l_lat : K.lookup f_lat = some ⟨oc_lat, od_lat, .func (PySem.W.fnOf "_law_at" "_law_at" (defArgs s_l_at) (defBody s_l_at) (defScope s_l_at) .none kV_lat dc_lat pm_lat an_lat cd_lat ct_lat), sl_lat⟩)
    (c_lat : PySem.W.codeIn K cd_lat "_law_at" = true)
    (k_lat : PySem.W.keepIn K (.ref f_lat) = true)
    (a_f1 : PySem.W.nsIn K mainGlobals "_law_first_faults" = some (some (.ref f_f1)))
    (l_f1 : K.lookup f_f1 = some ⟨oc_f1, od_f1, .func (PySem.W.fnOf "_law_first_faults" "_law_first_faults" (defArgs s_l_first_faults) (defBody s_l_first_faults) (defScope s_l_first_faults) .none kV_f1 dc_f1 pm_f1 an_f1 cd_f1 ct_f1), sl_f1⟩)
    (c_f1 : PySem.W.codeIn K cd_f1 "_law_first_faults" = true)
    (k_f1 : PySem.W.keepIn K (.ref f_f1) = true)
    (a_f2 : PySem.W.nsIn K mainGlobals "_law_second_faults" = some (some (.ref f_f2)))
    (l_f2 : K.lookup f_f2 = some ⟨oc_f2, od_f2, .func (PySem.W.fnOf "_law_second_faults" "_law_second_faults" (defArgs s_l_second_faults) (defBody s_l_second_faults) (defScope s_l_second_faults) .none kV_f2 dc_f2 pm_f2 an_f2 cd_f2 ct_f2), sl_f2⟩)
    (c_f2 : PySem.W.codeIn K cd_f2 "_law_second_faults" = true)
    (k_f2 : PySem.W.keepIn K (.ref f_f2) = true)
    (a_each : PySem.W.nsIn K mainGlobals "_law_each" = some (some (.ref f_each)))
    (l_each : K.lookup f_each = some ⟨oc_each, od_each, .func (PySem.W.fnOf "_law_each" "_law_each" (defArgs s_l_each) (defBody s_l_each) (defScope s_l_each) .none kV_each dc_each pm_each an_each cd_each ct_each), sl_each⟩)
    (c_each : PySem.W.codeIn K cd_each "_law_each" = true)
    (k_each : PySem.W.keepIn K (.ref f_each) = true)
    (a_law : PySem.W.nsIn K mainGlobals "law" = some (some (.ref f_law)))
    (l_law : K.lookup f_law = some ⟨oc_law, od_law, .func (PySem.W.fnOf "law" "law" (defArgs s_law) (defBody s_law) (defScope s_law) .none kV_law dc_law pm_law an_law cd_law ct_law), sl_law⟩)
    (c_law : PySem.W.codeIn K cd_law "law" = true)
    (k_law : PySem.W.keepIn K (.ref f_law) = true)
    (a_Do : PySem.W.nsIn K mainGlobals "Door" = some (some (.ref Do)))
    (pg_Do : PySem.W.plainGet K Do Str.empty = true)
    (hd_Do : PySem.W.hasDictIn K Do = true)
    (po_Do : PySem.W.plainOver K Do = true)
    (sa_Do : PySem.W.findIn K (.ref Do) "__setattr__" = some (some (.builtin "object.__setattr__")))
    (mk_Do : PySem.W.makesIn K Do = true)
    (kc_Do : PySem.W.keepIn K (.ref Do) = true)
    (ns_Do : PySem.W.noSeq K Do = true)
    (n_Do_name : PySem.W.findIn K (.ref Do) "name" = some none)
    (n_Do_lines : PySem.W.findIn K (.ref Do) "lines" = some none)
    (n_Do_steps : PySem.W.findIn K (.ref Do) "steps" = some none)
    (n_Do_touches : PySem.W.findIn K (.ref Do) "touches" = some none)
    (n_Do_names_row : PySem.W.findIn K (.ref Do) "names_row" = some none)
    (a_Bd : PySem.W.nsIn K mainGlobals "BadDoor" = some (some (.ref Bd)))
    (x_Bd : ∃ nm q N bs bm sn sub ab col dd k0 k1 k2 k3 k5, K.lookup Bd = some (excClassObj nm q Bd N bs bm true sn sub ab col dd k0 k1 k2 k3 k5 "ValueError.__new__") ∧ PySem.HandSPX.refsVE bm = true)
    (sa_Bd : PySem.W.findIn K (.ref Bd) "__setattr__" = some (some (.builtin "object.__setattr__")))
    (ec_Bd : PySem.W.subIn K (.ref Bd) (.type "BaseException") = some true)
    (ty_Bd : PySem.W.typeIn K (.ref Bd) = some (.type "type"))
    (kc_Bd : PySem.W.keepIn K (.ref Bd) = true)
    (is_Bd : PySem.W.isClsIn K Bd = true)
    (ss_Bd : PySem.W.subIn K (.ref Bd) (.ref Bd) = some true)
    (nf_Bd : PySem.W.findIn K (.ref Bd) "at" = some none)
    (a_xbd : PySem.W.findIn K (.ref Bd) "__init__" = some (some (.ref f_xbd)))
    (t_xbd : PySem.W.typeIn K (.ref f_xbd) = some (.type "function"))
    (l_xbd : K.lookup f_xbd = some ⟨oc_xbd, od_xbd, .func (PySem.W.fnOf "__init__" "BadDoor.__init__" (defArgs s_BadDoor_init) (defBody s_BadDoor_init) (defScope s_BadDoor_init) .none kV_xbd dc_xbd pm_xbd an_xbd cd_xbd ct_xbd), sl_xbd⟩)
    (c_xbd : PySem.W.codeIn K cd_xbd "BadDoor.__init__" = true)
    (k_xbd : PySem.W.keepIn K (.ref f_xbd) = true)
    (a_dof : PySem.W.findCls K (.ref Do) (.type "type") "of" = some (.get (.builtin "classmethod.__get__") (.ref q_dof) .none (.ref Do)))
    (rc_dof : PySem.W.recIn K q_dof "classmethod" = some (.ref f_dof :: r_dof))
    (l_dof : K.lookup f_dof = some ⟨oc_dof, od_dof, .func (PySem.W.fnOf "of" "Door.of" (defArgs s_Door_of) (defBody s_Door_of) (defScope s_Door_of) .none kV_dof dc_dof pm_dof an_dof cd_dof ct_dof), sl_dof⟩)
    (c_dof : PySem.W.codeIn K cd_dof "Door.of" = true)
    (fi_dof : PySem.W.fnIn K f_dof = true)
    (k_dof : PySem.W.keepIn K (.ref f_dof) = true)
    (rd_Do : PySem.W.readsIn K Do (.type "type") = true)
    (ga_Do : PySem.W.specialIn K (.ref Do) "__getattribute__" = some (some (.builtin "type.__getattribute__")))
    (a_LET : PySem.W.nsIn K mainGlobals "LETTERS" = some (some (.str LET tk_LET)))
    (a_DIG : PySem.W.nsIn K mainGlobals "DIGITS" = some (some (.str DIG tk_DIG)))
    (a_RES : PySem.W.nsIn K mainGlobals "RESERVED" = some (some (.ref rR)))
    (t_RES : ∀ H : Hp, SqT K H rR (RES.map V.str))
    (a_SG : PySem.W.nsIn K mainGlobals "SIGNS" = some (some (.ref rS)))
    (t_SG : ∀ H : Hp, SqT K H rS (SIGNS.map V.str))
    (a_CR : PySem.W.nsIn K mainGlobals "CROSSING" = some (some (.ref rC)))
    (t_CR : ∀ H : Hp, SqT K H rC (CROSS.map V.str))
    (a_riD : PySem.W.findIn K (.ref Do) "__init__" = some (some (.ref f_riD)))
    (i_riD : PySem.W.isFn K (.ref f_riD) = true)
    (l_riD : K.lookup f_riD = some ⟨oc_riD, od_riD, .func (PySem.W.fnOf "__init__" "Door.__init__" (defArgs s_Door_init) (defBody s_Door_init) (defScope s_Door_init) .none kV_riD dc_riD pm_riD an_riD cd_riD ct_riD), sl_riD⟩)
    (c_riD : PySem.W.codeIn K cd_riD "Door.__init__" = true)
    (ca_Do : PySem.W.findIn K (.ref Do) "__class__" = some (some (.builtin "object.__class__")))
    (ch_Do : PySem.W.specialIn K (.builtin "object.__class__") "__get__" = some (some (.builtin "getset_descriptor.__get__")))
    (ct_Do : PySem.W.takesIn K (.builtin "object.__class__") = some true)
    (cm_Do : PySem.W.mroIn K Do (.type "object") = some true)
    (hg_Bd : PySem.W.findIn K (.ref Bd) "__getattribute__" = some (some (.builtin "BaseException.__getattribute__")))
    (hk_Bd : PySem.W.findIn K (.ref Bd) "__getattr__" = some none)
    (hd_Bd : PySem.W.hasDictIn K Bd = true)
    (ca_Bd : PySem.W.findIn K (.ref Bd) "__class__" = some (some (.builtin "object.__class__")))
    (cm_Bd : PySem.W.mroIn K Bd (.type "object") = some true)
    (a_ce : PySem.W.nsIn K mainGlobals "CountsheldError" = some (some (.ref ce)))
    (is_ce : PySem.W.isClsIn K ce = true)
    (ty_ce : PySem.W.typeIn K (.ref ce) = some (.type "type"))
    (s_Bd_ce : PySem.W.subIn K (.ref Bd) (.ref ce) = some true)
    (z_len : PySem.W.nsIn K mainGlobals "len" = some none)
    (z_int : PySem.W.nsIn K mainGlobals "int" = some none)
    (z_abs : PySem.W.nsIn K mainGlobals "abs" = some none)
    (z_list : PySem.W.nsIn K mainGlobals "list" = some none)
    (z_range : PySem.W.nsIn K mainGlobals "range" = some none)
    (z_sorted : PySem.W.nsIn K mainGlobals "sorted" = some none)
    (z_str : PySem.W.nsIn K mainGlobals "str" = some none)
    (z_isinstance : PySem.W.nsIn K mainGlobals "isinstance" = some none)
    (z_sum : PySem.W.nsIn K mainGlobals "sum" = some none)
    (z_tuple : PySem.W.nsIn K mainGlobals "tuple" = some none)
    (z_dict : PySem.W.nsIn K mainGlobals "dict" = some none)
    (z_all : PySem.W.nsIn K mainGlobals "all" = some none)
    (z_bool : PySem.W.nsIn K mainGlobals "bool" = some none)
    (z_enumerate : PySem.W.nsIn K mainGlobals "enumerate" = some none)
    (z_any : PySem.W.nsIn K mainGlobals "any" = some none)
    : ∃ fd : FuncData, (∀ (s : Shared) (v : Value), BindsTo s fd ⟨[v], []⟩ [("_law_script", v)]) ∧ ∀ base : Heap, K.In base → base.Ns mainGlobals mg → FnOk l.prog w K mg base CX0 13 fa fd ["_law_script"] (spLawD K) := by
  have e := hfa.symm.trans (PySem.W.mg_of X G a_law)
  cases e
  have g : Bi mg := ⟨PySem.W.mg_none_of X G z_len, PySem.W.mg_none_of X G z_int, PySem.W.mg_none_of X G z_abs, PySem.W.mg_none_of X G z_list, PySem.W.mg_none_of X G z_range, PySem.W.mg_none_of X G z_sorted, PySem.W.mg_none_of X G z_str, PySem.W.mg_none_of X G z_isinstance, PySem.W.mg_none_of X G z_sum, PySem.W.mg_none_of X G z_tuple, PySem.W.mg_none_of X G z_dict, PySem.W.mg_none_of X G z_all, PySem.W.mg_none_of X G z_bool, PySem.W.mg_none_of X G z_enumerate⟩
  have F_isword := fun_mk (st := s_is_word) l_isword c_isword k_isword
  have b_isword := F_isword.binds (ps := ["thing"]) fun _ _ _ _ _ _ us hl => match us, hl with | [_], _ => rfl
  have F_distinct := fun_mk (st := s_distinct) l_distinct c_distinct k_distinct
  have b_distinct := F_distinct.binds (ps := ["words"]) fun _ _ _ _ _ _ us hl => match us, hl with | [_], _ => rfl
  have F_source := fun_mk (st := s_l_source) l_source c_source k_source
  have b_source := F_source.binds (ps := ["_law_script"]) fun _ _ _ _ _ _ us hl => match us, hl with | [_], _ => rfl
  have F_mixed := fun_mk (st := s_l_mixed) l_mixed c_mixed k_mixed
  have b_mixed := F_mixed.binds (ps := ["_law_cell", "_law_count"]) fun _ _ _ _ _ _ us hl => match us, hl with | [_, _], _ => rfl
  have F_draw := fun_mk (st := s_l_draw) l_draw c_draw k_draw
  have b_draw := F_draw.binds (ps := ["_law_source_here", "_law_size"]) fun _ _ _ _ _ _ us hl => match us, hl with | [_, _], _ => rfl
  have F_word := fun_mk (st := s_l_word) l_word c_word k_word
  have b_word := F_word.binds (ps := ["_law_source_here"]) fun _ _ _ _ _ _ us hl => match us, hl with | [_], _ => rfl
  have F_iskind := fun_mk (st := s_is_kind) l_iskind c_iskind k_iskind
  have b_iskind := F_iskind.binds (ps := ["thing"]) fun _ _ _ _ _ _ us hl => match us, hl with | [_], _ => rfl
  have F_spl := fun_mk (st := s_split_at) l_spl c_spl k_spl
  have b_spl := F_spl.binds (ps := ["tokens", "word"]) fun _ _ _ _ _ _ us hl => match us, hl with | [_, _], _ => rfl
  have F_rk := fun_mk (st := s_read_kinds) l_rk c_rk k_rk
  have b_rk := F_rk.binds (ps := ["tokens", "between"]) fun _ _ _ _ _ _ us hl => match us, hl with | [_, _], _ => rfl
  have F_dg := fun_mk (st := s_is_digit) l_dg c_dg k_dg
  have b_dg := F_dg.binds (ps := ["text"]) fun _ _ _ _ _ _ us hl => match us, hl with | [_], _ => rfl
  have F_rt := fun_mk (st := s_read_test) l_rt c_rt k_rt
  have b_rt := F_rt.binds (ps := ["tokens"]) fun _ _ _ _ _ _ us hl => match us, hl with | [_], _ => rfl
  have F_rs := fun_mk (st := s_read_tests) l_rs c_rs k_rs
  have b_rs := F_rs.binds (ps := ["tokens"]) fun _ _ _ _ _ _ us hl => match us, hl with | [_], _ => rfl
  have F_ra := fun_mk (st := s_read_arrow) l_ra c_ra k_ra
  have b_ra := F_ra.binds (ps := ["tokens"]) fun _ _ _ _ _ _ us hl => match us, hl with | [_], _ => rfl
  have F_rp := fun_mk (st := s_read_part) l_rp c_rp k_rp
  have b_rp := F_rp.binds (ps := ["tokens"]) fun _ _ _ _ _ _ us hl => match us, hl with | [_], _ => rfl
  have F_hm := fun_mk (st := s_how_many) l_hm c_hm k_hm
  have b_hm := F_hm.binds (ps := ["parts", "words"]) fun _ _ _ _ _ _ us hl => match us, hl with | [_, _], _ => rfl
  have F_ao := fun_mk (st := s_asks_other) l_ao c_ao k_ao
  have b_ao := F_ao.binds (ps := ["tests"]) fun _ _ _ _ _ _ us hl => match us, hl with | [_], _ => rfl
  have F_rd := fun_mk (st := s_read_do) l_rd c_rd k_rd
  have b_rd := F_rd.binds (ps := ["tokens"]) fun _ _ _ _ _ _ us hl => match us, hl with | [_], _ => rfl
  have F_rl := fun_mk (st := s_read_line) l_rl c_rl k_rl
  have b_rl := F_rl.binds (ps := ["line"]) fun _ _ _ _ _ _ us hl => match us, hl with | [_], _ => rfl
  have F_to := fun_mk (st := s_tests_of) l_to c_to k_to
  have b_to := F_to.binds (ps := ["step"]) fun _ _ _ _ _ _ us hl => match us, hl with | [_], _ => rfl
  have F_po := fun_mk (st := s_parts_of) l_po c_po k_po
  have b_po := F_po.binds (ps := ["step"]) fun _ _ _ _ _ _ us hl => match us, hl with | [_], _ => rfl
  have F_st := fun_mk (st := s_step_touches) l_st c_st k_st
  have b_st := F_st.binds (ps := ["step"]) fun _ _ _ _ _ _ us hl => match us, hl with | [_], _ => rfl
  have F_sn := fun_mk (st := s_step_names_row) l_sn c_sn k_sn
  have b_sn := F_sn.binds (ps := ["step"]) fun _ _ _ _ _ _ us hl => match us, hl with | [_], _ => rfl
  have F_kind := fun_mk (st := s_l_kind) l_kind c_kind k_kind
  have b_kind := F_kind.binds (ps := ["_law_source_here", "_law_taken"]) fun _ _ _ _ _ _ us hl => match us, hl with | [_, _], _ => rfl
  have F_kinds := fun_mk (st := s_l_kinds) l_kinds c_kinds k_kinds
  have b_kinds := F_kinds.binds (ps := ["_law_source_here", "_law_many"]) fun _ _ _ _ _ _ us hl => match us, hl with | [_, _], _ => rfl
  have F_has := fun_mk (st := s_l_has) l_has c_has k_has
  have b_has := F_has.binds (ps := ["_law_lines_here", "_law_words"]) fun _ _ _ _ _ _ us hl => match us, hl with | [_, _], _ => rfl
  have F_some := fun_mk (st := s_l_some) l_some c_some k_some
  have b_some := F_some.binds (ps := ["_law_source_here", "_law_things", "_law_most"]) fun _ _ _ _ _ _ us hl => match us, hl with | [_, _, _], _ => rfl
  have F_test := fun_mk (st := s_l_test) l_test c_test k_test
  have b_test := F_test.binds (ps := ["_law_source_here", "_law_kinds_here", "_law_ruled", "_law_crossing"]) fun _ _ _ _ _ _ us hl => match us, hl with | [_, _, _, _], _ => rfl
  have F_part := fun_mk (st := s_l_part) l_part c_part k_part
  have b_part := F_part.binds (ps := ["_law_source_here", "_law_kinds_here", "_law_ruled", "_law_word_here", "_law_at_here"]) fun _ _ _ _ _ _ us hl => match us, hl with | [_, _, _, _, _], _ => rfl
  have F_do := fun_mk (st := s_l_do) l_do c_do k_do
  have b_do := F_do.binds (ps := ["_law_source_here", "_law_kinds_here", "_law_ruled", "_law_crossing"]) fun _ _ _ _ _ _ us hl => match us, hl with | [_, _, _, _], _ => rfl
  have F_lines := fun_mk (st := s_l_lines) l_lines c_lines k_lines
  have b_lines := F_lines.binds (ps := ["_law_source_here", "_law_kinds_here", "_law_ruled"]) fun _ _ _ _ _ _ us hl => match us, hl with | [_, _, _], _ => rfl
  have F_lat := fun_mk (st := s_l_at) l_lat c_lat k_lat
  have b_lat := F_lat.binds (ps := ["_law_name", "_law_lines_here"]) fun _ _ _ _ _ _ us hl => match us, hl with | [_, _], _ => rfl
  have F_f1 := fun_mk (st := s_l_first_faults) l_f1 c_f1 k_f1
  have b_f1 := F_f1.binds (ps := ["_law_a", "_law_b"]) fun _ _ _ _ _ _ us hl => match us, hl with | [_, _], _ => rfl
  have F_f2 := fun_mk (st := s_l_second_faults) l_f2 c_f2 k_f2
  have b_f2 := F_f2.binds (ps := ["_law_a", "_law_b"]) fun _ _ _ _ _ _ us hl => match us, hl with | [_, _], _ => rfl
  have F_each := fun_mk (st := s_l_each) l_each c_each k_each
  have b_each := F_each.binds (ps := ["_law_name", "_law_lines_here"]) fun _ _ _ _ _ _ us hl => match us, hl with | [_, _], _ => rfl
  have F_law := fun_mk (st := s_law) l_law c_law k_law
  have b_law := F_law.binds (ps := ["_law_script"]) fun _ _ _ _ _ _ us hl => match us, hl with | [_], _ => rfl
  have F_xbd := fun_mk (st := s_BadDoor_init) l_xbd c_xbd k_xbd
  have b_xbd := F_xbd.binds (ps := ["self", "at"]) fun _ _ _ _ _ _ us hl => match us, hl with | [_, _], _ => rfl
  have F_dof := fun_mk (st := s_Door_of) l_dof c_dof k_dof
  have b_dof := F_dof.binds (ps := ["cls", "name", "lines"]) fun _ _ _ _ _ _ us hl => match us, hl with | [_, _, _], _ => rfl
  refine ⟨PySem.W.fnOf "law" "law" (defArgs s_law) (defBody s_law) (defScope s_law) .none kV_law dc_law pm_law an_law cd_law ct_law, fun s v => .of_eq rfl, fun base _ _ => ?_⟩
  have M := fun {x : Str} {v : Value} (a : PySem.W.nsIn K mainGlobals x = some (some v)) => PySem.W.mg_of X G a
  have FIW : Def l.prog w K mg base CX0 1 "is_word" ["thing"] (spIsWord K) f_isword _ := ⟨ok_is_word F_isword g (M a_LET), M a_isword, k_isword, b_isword⟩
  have FDI : Def l.prog w K mg base CX0 1 "distinct" ["words"] (spDistinct K) f_distinct _ := ⟨ok_distinct F_distinct g, M a_distinct, k_distinct, b_distinct⟩
  have FSO : Def l.prog w K mg base CX0 1 "_law_source" ["_law_script"] (spSource K) f_source _ := ⟨ok_source F_source g, M a_source, k_source, b_source⟩
  have FDR : Def l.prog w K mg base CX0 2 "_law_draw" ["_law_source_here", "_law_size"] spDraw f_draw _ := ⟨ok_draw F_draw g F_mixed (M a_mixed) b_mixed, M a_draw, k_draw, b_draw⟩
  have FWD : Def l.prog w K mg base CX0 3 "_law_word" ["_law_source_here"] spWord f_word _ := ⟨ok_word F_word g FDR, M a_word, k_word, b_word⟩
  have hRES : ResAt K rR := t_RES
  have FIK : Def l.prog w K mg base CX0 2 "is_kind" ["thing"] (spIsKind K) f_iskind _ := ⟨ok_is_kind F_iskind g FIW (M a_RES) hRES, M a_iskind, k_iskind, b_iskind⟩
  have nA := PySem.W.mg_none_of X G z_any
  have FSP : Def l.prog w K mg base CX0 1 "split_at" ["tokens", "word"] spSplitAt f_spl _ := ⟨ok_split_at F_spl g, M a_spl, k_spl, b_spl⟩
  have FRK : Def l.prog w K mg base CX0 3 "read_kinds" ["tokens", "between"] spReadKinds f_rk _ := ⟨ok_read_kinds F_rk g FIK FDI, M a_rk, k_rk, b_rk⟩
  have FDG : Def l.prog w K mg base CX0 1 "is_digit" ["text"] spIsDigit f_dg _ := ⟨ok_is_digit F_dg g (M a_DIG), M a_dg, k_dg, b_dg⟩
  have FRT : Def l.prog w K mg base CX0 4 "read_test" ["tokens"] spReadTest f_rt _ := ⟨ok_read_test F_rt g FRK FDG (M a_SG) t_SG, M a_rt, k_rt, b_rt⟩
  have FRS : Def l.prog w K mg base CX0 5 "read_tests" ["tokens"] spReadTests f_rs _ := ⟨ok_read_tests F_rs g FSP FRT, M a_rs, k_rs, b_rs⟩
  have FRA : Def l.prog w K mg base CX0 4 "read_arrow" ["tokens"] spReadArrow f_ra _ := ⟨ok_read_arrow F_ra g FRK FIK, M a_ra, k_ra, b_ra⟩
  have FRP : Def l.prog w K mg base CX0 5 "read_part" ["tokens"] spReadPart f_rp _ := ⟨ok_read_part F_rp g FRA FIK, M a_rp, k_rp, b_rp⟩
  have FHM : Def l.prog w K mg base CX0 1 "how_many" ["parts", "words"] (spHowMany K) f_hm _ := ⟨ok_how_many F_hm g, M a_hm, k_hm, b_hm⟩
  have FAO : Def l.prog w K mg base CX0 1 "asks_other" ["tests"] spAsksOther f_ao _ := ⟨ok_asks_other F_ao g nA, M a_ao, k_ao, b_ao⟩
  have FRD : Def l.prog w K mg base CX0 6 "read_do" ["tokens"] spReadDo f_rd _ := ⟨ok_read_do F_rd g FSP FRP FRS FHM FAO (M a_CR) t_CR, M a_rd, k_rd, b_rd⟩
  have FRL : Def l.prog w K mg base CX0 7 "read_line" ["line"] (spReadLine K) f_rl _ := ⟨ok_read_line F_rl g FRS FAO FRD, M a_rl, k_rl, b_rl⟩
  have FTO : Def l.prog w K mg base CX0 1 "tests_of" ["step"] spTestsOf f_to _ := ⟨ok_tests_of F_to g, M a_to, k_to, b_to⟩
  have FPO : Def l.prog w K mg base CX0 1 "parts_of" ["step"] spPartsOf f_po _ := ⟨ok_parts_of F_po g, M a_po, k_po, b_po⟩
  have FST : Def l.prog w K mg base CX0 2 "step_touches" ["step"] spTouches f_st _ := ⟨ok_step_touches F_st g FHM FPO (M a_CR) t_CR, M a_st, k_st, b_st⟩
  have FSN : Def l.prog w K mg base CX0 2 "step_names_row" ["step"] spNamesRow f_sn _ := ⟨ok_step_names_row F_sn g FHM FPO FTO, M a_sn, k_sn, b_sn⟩
  have FKI : Def l.prog w K mg base CX0 3 "_law_kind" ["_law_source_here", "_law_taken"] spKind f_kind _ := ⟨ok_kind F_kind g FDR, M a_kind, k_kind, b_kind⟩
  have FKS : Def l.prog w K mg base CX0 4 "_law_kinds" ["_law_source_here", "_law_many"] spKinds f_kinds _ := ⟨ok_kinds F_kinds g FKI, M a_kinds, k_kinds, b_kinds⟩
  have FHA : Def l.prog w K mg base CX0 1 "_law_has" ["_law_lines_here", "_law_words"] spHas f_has _ := ⟨ok_has F_has g, M a_has, k_has, b_has⟩
  have FSM : Def l.prog w K mg base CX0 3 "_law_some" ["_law_source_here", "_law_things", "_law_most"] spSome f_some _ := ⟨ok_some F_some g FDR, M a_some, k_some, b_some⟩
  have FTE : Def l.prog w K mg base CX0 4 "_law_test" ["_law_source_here", "_law_kinds_here", "_law_ruled", "_law_crossing"] spTest f_test _ := ⟨ok_ltest F_test g FDR FSM, M a_test, k_test, b_test⟩
  have FPT : Def l.prog w K mg base CX0 4 "_law_part" ["_law_source_here", "_law_kinds_here", "_law_ruled", "_law_word_here", "_law_at_here"] spPart f_part _ := ⟨ok_lpart F_part g FDR FSM, M a_part, k_part, b_part⟩
  have FDO : Def l.prog w K mg base CX0 5 "_law_do" ["_law_source_here", "_law_kinds_here", "_law_ruled", "_law_crossing"] spDo f_do _ := ⟨ok_ldo F_do g FDR FPT FTE, M a_do, k_do, b_do⟩
  have FLI : Def l.prog w K mg base CX0 6 "_law_lines" ["_law_source_here", "_law_kinds_here", "_law_ruled"] spLines f_lines _ := ⟨ok_llines F_lines g FDR FDO FTE FHA, M a_lines, k_lines, b_lines⟩
  have clD : Cls K Do := ⟨pg_Do, hd_Do, po_Do, sa_Do⟩
  have DCD : DoC K Do := ⟨clD, n_Do_name, n_Do_lines, n_Do_steps, n_Do_touches, n_Do_names_row⟩
  have diD : DI K Do := ⟨fun h => .base (.ins h clD ca_Do ch_Do ct_Do cm_Do)⟩
  have IRD := ok_door (P := l.prog) (w := w) (mg := mg) (base := base) (C := Do) g nA DCD FIW FRL FHM FST FSN l_riD c_riD
  have MKD : Mk K Do f_riD := ⟨mk_Do, a_riD, i_riD, kc_Do⟩
  have OBd : OexC K Bd := ⟨x_Bd, sa_Bd, ec_Bd, ty_Bd, kc_Bd⟩
  have XBD : XDef l.prog w K mg base "BadDoor" Bd f_xbd "at" ["self", "at"] _ := ⟨OBd, a_xbd, t_xbd, ok_xdoor F_xbd OBd nf_Bd, b_xbd, M a_Bd, exm_self ec_Bd is_Bd ty_Bd ss_Bd⟩
  have ECD : ExcC K Bd := ⟨hg_Bd, hk_Bd, ec_Bd, hd_Bd, ca_Bd, ch_Do, ct_Do, cm_Bd⟩
  have XFD : XfC K Bd := ⟨hg_Bd, hk_Bd, ec_Bd, hd_Bd⟩
  have k_ce := kitD_yes is_ce ty_ce s_Bd_ce
  have IRX := ok_doorX (P := l.prog) (w := w) (mg := mg) (base := base) (C := Do) (B := Bd) g nA DCD FIW FRL FHM FST FSN XBD l_riD c_riD
  have FAT : Def l.prog w K mg base CX0 11 "_law_at" ["_law_name", "_law_lines_here"] (spLAt K) f_lat _ := ⟨ok_lat F_lat g (M a_Do) XBD ECD XFD nf_Bd (M a_ce) k_ce ⟨rd_Do, ga_Do⟩ ⟨a_dof, ⟨_, rc_dof⟩, fi_dof⟩ (fnR_of (ok_door_ofX F_dof MKD IRX) b_dof), M a_lat, k_lat, b_lat⟩
  have FF1 : Def l.prog w K mg base CX0 1 "_law_first_faults" ["_law_a", "_law_b"] (spFaults 34) f_f1 _ := ⟨ok_faults1 F_f1, M a_f1, k_f1, b_f1⟩
  have FF2 : Def l.prog w K mg base CX0 1 "_law_second_faults" ["_law_a", "_law_b"] (spFaults 35) f_f2 _ := ⟨ok_faults2 F_f2, M a_f2, k_f2, b_f2⟩
  have FEA : Def l.prog w K mg base CX0 12 "_law_each" ["_law_name", "_law_lines_here"] (spLAt K) f_each _ := ⟨ok_each F_each g (M a_Do) XBD XFD nf_Bd MKD IRX FAT, M a_each, k_each, b_each⟩
  exact ok_law F_law g FSO FDR FWD FKS FLI FF1 FF2 FEA FAT
end Cs
namespace Cs
open PySem PySem.Spec PyProof.Rows L2 Dr
abbrev R0 : PySem.W.OpenRow := PySem.W.OpenLaw.row PySem.Challenge.rw_countsheld_k24_lines_refused
def fd0 : FnA := ⟨fun K => (He.ga K "is_word"), "is_word", "is_word", s_is_word, [], false⟩
def fd1 : FnA := ⟨fun K => (He.ga K "distinct"), "distinct", "distinct", s_distinct, [], false⟩
def fd2 : FnA := ⟨fun K => (He.ga K "_law_source"), "_law_source", "_law_source", s_l_source, [], false⟩
def fd3 : FnA := ⟨fun K => (He.ga K "_law_mixed"), "_law_mixed", "_law_mixed", s_l_mixed, [], false⟩
def fd4 : FnA := ⟨fun K => (He.ga K "_law_draw"), "_law_draw", "_law_draw", s_l_draw, [], false⟩
def fd5 : FnA := ⟨fun K => (He.ga K "_law_word"), "_law_word", "_law_word", s_l_word, [], false⟩
def fd6 : FnA := ⟨fun K => (He.ga K "is_kind"), "is_kind", "is_kind", s_is_kind, [], false⟩
def fd7 : FnA := ⟨fun K => (He.ga K "split_at"), "split_at", "split_at", s_split_at, [], false⟩
def fd8 : FnA := ⟨fun K => (He.ga K "read_kinds"), "read_kinds", "read_kinds", s_read_kinds, [], false⟩
def fd9 : FnA := ⟨fun K => (He.ga K "is_digit"), "is_digit", "is_digit", s_is_digit, [], false⟩
def fd10 : FnA := ⟨fun K => (He.ga K "read_test"), "read_test", "read_test", s_read_test, [], false⟩
def fd11 : FnA := ⟨fun K => (He.ga K "read_tests"), "read_tests", "read_tests", s_read_tests, [], false⟩
def fd12 : FnA := ⟨fun K => (He.ga K "read_arrow"), "read_arrow", "read_arrow", s_read_arrow, [], false⟩
def fd13 : FnA := ⟨fun K => (He.ga K "read_part"), "read_part", "read_part", s_read_part, [], false⟩
def fd14 : FnA := ⟨fun K => (He.ga K "how_many"), "how_many", "how_many", s_how_many, [], false⟩
def fd15 : FnA := ⟨fun K => (He.ga K "asks_other"), "asks_other", "asks_other", s_asks_other, [], false⟩
def fd16 : FnA := ⟨fun K => (He.ga K "read_do"), "read_do", "read_do", s_read_do, [], false⟩
def fd17 : FnA := ⟨fun K => (He.ga K "read_line"), "read_line", "read_line", s_read_line, [], false⟩
def fd18 : FnA := ⟨fun K => (He.ga K "tests_of"), "tests_of", "tests_of", s_tests_of, [], false⟩
def fd19 : FnA := ⟨fun K => (He.ga K "parts_of"), "parts_of", "parts_of", s_parts_of, [], false⟩
def fd20 : FnA := ⟨fun K => (He.ga K "step_touches"), "step_touches", "step_touches", s_step_touches, [], false⟩
def fd21 : FnA := ⟨fun K => (He.ga K "step_names_row"), "step_names_row", "step_names_row", s_step_names_row, [], false⟩
def fd22 : FnA := ⟨fun K => (He.ga K "_law_kind"), "_law_kind", "_law_kind", s_l_kind, [], false⟩
def fd23 : FnA := ⟨fun K => (He.ga K "_law_kinds"), "_law_kinds", "_law_kinds", s_l_kinds, [], false⟩
def fd24 : FnA := ⟨fun K => (He.ga K "_law_has"), "_law_has", "_law_has", s_l_has, [], false⟩
def fd25 : FnA := ⟨fun K => (He.ga K "_law_some"), "_law_some", "_law_some", s_l_some, [], false⟩
def fd26 : FnA := ⟨fun K => (He.ga K "_law_test"), "_law_test", "_law_test", s_l_test, [], false⟩
def fd27 : FnA := ⟨fun K => (He.ga K "_law_part"), "_law_part", "_law_part", s_l_part, [], false⟩
def fd28 : FnA := ⟨fun K => (He.ga K "_law_do"), "_law_do", "_law_do", s_l_do, [], false⟩
def fd29 : FnA := ⟨fun K => (He.ga K "_law_lines"), "_law_lines", "_law_lines", s_l_lines, [], false⟩
def fd30 : FnA := ⟨fun K => (He.ga K "_law_at"), "_law_at", "_law_at", s_l_at, [], false⟩
def fd31 : FnA := ⟨fun K => (He.ga K "_law_first_faults"), "_law_first_faults", "_law_first_faults", s_l_first_faults, [], false⟩
def fd32 : FnA := ⟨fun K => (He.ga K "_law_second_faults"), "_law_second_faults", "_law_second_faults", s_l_second_faults, [], false⟩
def fd33 : FnA := ⟨fun K => (He.ga K "_law_each"), "_law_each", "_law_each", s_l_each, [], false⟩
def fd34 : FnA := ⟨fun K => (He.ga K "law"), "law", "law", s_law, [], false⟩
def fd35 : FnA := ⟨fun K => (He.ma K (He.ga K "BadDoor") "__init__"), "__init__", "BadDoor.__init__", s_BadDoor_init, [], false⟩
def fd36 : FnA := ⟨fun K => (cmF K (He.ga K "Door") "of" "classmethod"), "of", "Door.of", s_Door_of, [], false⟩
def fd37 : FnA := ⟨fun K => (He.ma K (He.ga K "Door") "__init__"), "__init__", "Door.__init__", s_Door_init, [], false⟩
def ck0 (K : Fr) : Bool := exoB K (He.ga K "BadDoor")
def ck1 (K : Fr) : Bool := cmB K (He.ga K "Door") "of"
def ck2 (K : Fr) : Bool := He.tupB K "SIGNS" (SIGNS.map He.Dv.str)
def ck3 (K : Fr) : Bool := He.tupB K "CROSSING" (CROSS.map He.Dv.str)
def ck4 (K : Fr) : Bool := decide (PySem.W.nsIn K mainGlobals "is_word" = some (some (.ref (He.ga K "is_word"))))
def ck5 (K : Fr) : Bool := decide (PySem.W.keepIn K (.ref (He.ga K "is_word")) = true)
def ck6 (K : Fr) : Bool := decide (PySem.W.nsIn K mainGlobals "distinct" = some (some (.ref (He.ga K "distinct"))))
def ck7 (K : Fr) : Bool := decide (PySem.W.keepIn K (.ref (He.ga K "distinct")) = true)
def ck8 (K : Fr) : Bool := decide (PySem.W.nsIn K mainGlobals "_law_source" = some (some (.ref (He.ga K "_law_source"))))
def ck9 (K : Fr) : Bool := decide (PySem.W.keepIn K (.ref (He.ga K "_law_source")) = true)
def ck10 (K : Fr) : Bool := decide (PySem.W.nsIn K mainGlobals "_law_mixed" = some (some (.ref (He.ga K "_law_mixed"))))
def ck11 (K : Fr) : Bool := decide (PySem.W.keepIn K (.ref (He.ga K "_law_mixed")) = true)
def ck12 (K : Fr) : Bool := decide (PySem.W.nsIn K mainGlobals "_law_draw" = some (some (.ref (He.ga K "_law_draw"))))
def ck13 (K : Fr) : Bool := decide (PySem.W.keepIn K (.ref (He.ga K "_law_draw")) = true)
def ck14 (K : Fr) : Bool := decide (PySem.W.nsIn K mainGlobals "_law_word" = some (some (.ref (He.ga K "_law_word"))))
def ck15 (K : Fr) : Bool := decide (PySem.W.keepIn K (.ref (He.ga K "_law_word")) = true)
def ck16 (K : Fr) : Bool := decide (PySem.W.nsIn K mainGlobals "is_kind" = some (some (.ref (He.ga K "is_kind"))))
def ck17 (K : Fr) : Bool := decide (PySem.W.keepIn K (.ref (He.ga K "is_kind")) = true)
def ck18 (K : Fr) : Bool := decide (PySem.W.nsIn K mainGlobals "split_at" = some (some (.ref (He.ga K "split_at"))))
def ck19 (K : Fr) : Bool := decide (PySem.W.keepIn K (.ref (He.ga K "split_at")) = true)
def ck20 (K : Fr) : Bool := decide (PySem.W.nsIn K mainGlobals "read_kinds" = some (some (.ref (He.ga K "read_kinds"))))
def ck21 (K : Fr) : Bool := decide (PySem.W.keepIn K (.ref (He.ga K "read_kinds")) = true)
def ck22 (K : Fr) : Bool := decide (PySem.W.nsIn K mainGlobals "is_digit" = some (some (.ref (He.ga K "is_digit"))))
def ck23 (K : Fr) : Bool := decide (PySem.W.keepIn K (.ref (He.ga K "is_digit")) = true)
def ck24 (K : Fr) : Bool := decide (PySem.W.nsIn K mainGlobals "read_test" = some (some (.ref (He.ga K "read_test"))))
def ck25 (K : Fr) : Bool := decide (PySem.W.keepIn K (.ref (He.ga K "read_test")) = true)
def ck26 (K : Fr) : Bool := decide (PySem.W.nsIn K mainGlobals "read_tests" = some (some (.ref (He.ga K "read_tests"))))
def ck27 (K : Fr) : Bool := decide (PySem.W.keepIn K (.ref (He.ga K "read_tests")) = true)
def ck28 (K : Fr) : Bool := decide (PySem.W.nsIn K mainGlobals "read_arrow" = some (some (.ref (He.ga K "read_arrow"))))
def ck29 (K : Fr) : Bool := decide (PySem.W.keepIn K (.ref (He.ga K "read_arrow")) = true)
def ck30 (K : Fr) : Bool := decide (PySem.W.nsIn K mainGlobals "read_part" = some (some (.ref (He.ga K "read_part"))))
def ck31 (K : Fr) : Bool := decide (PySem.W.keepIn K (.ref (He.ga K "read_part")) = true)
def ck32 (K : Fr) : Bool := decide (PySem.W.nsIn K mainGlobals "how_many" = some (some (.ref (He.ga K "how_many"))))
def ck33 (K : Fr) : Bool := decide (PySem.W.keepIn K (.ref (He.ga K "how_many")) = true)
def ck34 (K : Fr) : Bool := decide (PySem.W.nsIn K mainGlobals "asks_other" = some (some (.ref (He.ga K "asks_other"))))
def ck35 (K : Fr) : Bool := decide (PySem.W.keepIn K (.ref (He.ga K "asks_other")) = true)
def ck36 (K : Fr) : Bool := decide (PySem.W.nsIn K mainGlobals "read_do" = some (some (.ref (He.ga K "read_do"))))
def ck37 (K : Fr) : Bool := decide (PySem.W.keepIn K (.ref (He.ga K "read_do")) = true)
def ck38 (K : Fr) : Bool := decide (PySem.W.nsIn K mainGlobals "read_line" = some (some (.ref (He.ga K "read_line"))))
def ck39 (K : Fr) : Bool := decide (PySem.W.keepIn K (.ref (He.ga K "read_line")) = true)
def ck40 (K : Fr) : Bool := decide (PySem.W.nsIn K mainGlobals "tests_of" = some (some (.ref (He.ga K "tests_of"))))
def ck41 (K : Fr) : Bool := decide (PySem.W.keepIn K (.ref (He.ga K "tests_of")) = true)
def ck42 (K : Fr) : Bool := decide (PySem.W.nsIn K mainGlobals "parts_of" = some (some (.ref (He.ga K "parts_of"))))
def ck43 (K : Fr) : Bool := decide (PySem.W.keepIn K (.ref (He.ga K "parts_of")) = true)
def ck44 (K : Fr) : Bool := decide (PySem.W.nsIn K mainGlobals "step_touches" = some (some (.ref (He.ga K "step_touches"))))
def ck45 (K : Fr) : Bool := decide (PySem.W.keepIn K (.ref (He.ga K "step_touches")) = true)
def ck46 (K : Fr) : Bool := decide (PySem.W.nsIn K mainGlobals "step_names_row" = some (some (.ref (He.ga K "step_names_row"))))
def ck47 (K : Fr) : Bool := decide (PySem.W.keepIn K (.ref (He.ga K "step_names_row")) = true)
def ck48 (K : Fr) : Bool := decide (PySem.W.nsIn K mainGlobals "_law_kind" = some (some (.ref (He.ga K "_law_kind"))))
def ck49 (K : Fr) : Bool := decide (PySem.W.keepIn K (.ref (He.ga K "_law_kind")) = true)
def ck50 (K : Fr) : Bool := decide (PySem.W.nsIn K mainGlobals "_law_kinds" = some (some (.ref (He.ga K "_law_kinds"))))
def ck51 (K : Fr) : Bool := decide (PySem.W.keepIn K (.ref (He.ga K "_law_kinds")) = true)
def ck52 (K : Fr) : Bool := decide (PySem.W.nsIn K mainGlobals "_law_has" = some (some (.ref (He.ga K "_law_has"))))
def ck53 (K : Fr) : Bool := decide (PySem.W.keepIn K (.ref (He.ga K "_law_has")) = true)
def ck54 (K : Fr) : Bool := decide (PySem.W.nsIn K mainGlobals "_law_some" = some (some (.ref (He.ga K "_law_some"))))
def ck55 (K : Fr) : Bool := decide (PySem.W.keepIn K (.ref (He.ga K "_law_some")) = true)
def ck56 (K : Fr) : Bool := decide (PySem.W.nsIn K mainGlobals "_law_test" = some (some (.ref (He.ga K "_law_test"))))
def ck57 (K : Fr) : Bool := decide (PySem.W.keepIn K (.ref (He.ga K "_law_test")) = true)
def ck58 (K : Fr) : Bool := decide (PySem.W.nsIn K mainGlobals "_law_part" = some (some (.ref (He.ga K "_law_part"))))
def ck59 (K : Fr) : Bool := decide (PySem.W.keepIn K (.ref (He.ga K "_law_part")) = true)
def ck60 (K : Fr) : Bool := decide (PySem.W.nsIn K mainGlobals "_law_do" = some (some (.ref (He.ga K "_law_do"))))
def ck61 (K : Fr) : Bool := decide (PySem.W.keepIn K (.ref (He.ga K "_law_do")) = true)
def ck62 (K : Fr) : Bool := decide (PySem.W.nsIn K mainGlobals "_law_lines" = some (some (.ref (He.ga K "_law_lines"))))
def ck63 (K : Fr) : Bool := decide (PySem.W.keepIn K (.ref (He.ga K "_law_lines")) = true)
def ck64 (K : Fr) : Bool := decide (PySem.W.nsIn K mainGlobals "_law_at" = some (some (.ref (He.ga K "_law_at"))))
def ck65 (K : Fr) : Bool := decide (PySem.W.keepIn K (.ref (He.ga K "_law_at")) = true)
def ck66 (K : Fr) : Bool := decide (PySem.W.nsIn K mainGlobals "_law_first_faults" = some (some (.ref (He.ga K "_law_first_faults"))))
def ck67 (K : Fr) : Bool := decide (PySem.W.keepIn K (.ref (He.ga K "_law_first_faults")) = true)
def ck68 (K : Fr) : Bool := decide (PySem.W.nsIn K mainGlobals "_law_second_faults" = some (some (.ref (He.ga K "_law_second_faults"))))
def ck69 (K : Fr) : Bool := decide (PySem.W.keepIn K (.ref (He.ga K "_law_second_faults")) = true)
def ck70 (K : Fr) : Bool := decide (PySem.W.nsIn K mainGlobals "_law_each" = some (some (.ref (He.ga K "_law_each"))))
def ck71 (K : Fr) : Bool := decide (PySem.W.keepIn K (.ref (He.ga K "_law_each")) = true)
def ck72 (K : Fr) : Bool := decide (PySem.W.nsIn K mainGlobals "law" = some (some (.ref (He.ga K "law"))))
def ck73 (K : Fr) : Bool := decide (PySem.W.keepIn K (.ref (He.ga K "law")) = true)
def ck74 (K : Fr) : Bool := decide (PySem.W.nsIn K mainGlobals "Door" = some (some (.ref (He.ga K "Door"))))
def ck75 (K : Fr) : Bool := decide (PySem.W.plainGet K (He.ga K "Door") Str.empty = true)
def ck76 (K : Fr) : Bool := decide (PySem.W.hasDictIn K (He.ga K "Door") = true)
def ck77 (K : Fr) : Bool := decide (PySem.W.plainOver K (He.ga K "Door") = true)
def ck78 (K : Fr) : Bool := decide (PySem.W.findIn K (.ref (He.ga K "Door")) "__setattr__" = some (some (.builtin "object.__setattr__")))
def ck79 (K : Fr) : Bool := decide (PySem.W.makesIn K (He.ga K "Door") = true)
def ck80 (K : Fr) : Bool := decide (PySem.W.keepIn K (.ref (He.ga K "Door")) = true)
def ck81 (K : Fr) : Bool := decide (PySem.W.noSeq K (He.ga K "Door") = true)
def ck82 (K : Fr) : Bool := decide (PySem.W.findIn K (.ref (He.ga K "Door")) "name" = some none)
def ck83 (K : Fr) : Bool := decide (PySem.W.findIn K (.ref (He.ga K "Door")) "lines" = some none)
def ck84 (K : Fr) : Bool := decide (PySem.W.findIn K (.ref (He.ga K "Door")) "steps" = some none)
def ck85 (K : Fr) : Bool := decide (PySem.W.findIn K (.ref (He.ga K "Door")) "touches" = some none)
def ck86 (K : Fr) : Bool := decide (PySem.W.findIn K (.ref (He.ga K "Door")) "names_row" = some none)
def ck87 (K : Fr) : Bool := decide (PySem.W.nsIn K mainGlobals "BadDoor" = some (some (.ref (He.ga K "BadDoor"))))
def ck88 (K : Fr) : Bool := decide (PySem.W.findIn K (.ref (He.ga K "BadDoor")) "__setattr__" = some (some (.builtin "object.__setattr__")))
def ck89 (K : Fr) : Bool := decide (PySem.W.subIn K (.ref (He.ga K "BadDoor")) (.type "BaseException") = some true)
def ck90 (K : Fr) : Bool := decide (PySem.W.typeIn K (.ref (He.ga K "BadDoor")) = some (.type "type"))
def ck91 (K : Fr) : Bool := decide (PySem.W.keepIn K (.ref (He.ga K "BadDoor")) = true)
def ck92 (K : Fr) : Bool := decide (PySem.W.isClsIn K (He.ga K "BadDoor") = true)
def ck93 (K : Fr) : Bool := decide (PySem.W.subIn K (.ref (He.ga K "BadDoor")) (.ref (He.ga K "BadDoor")) = some true)
def ck94 (K : Fr) : Bool := decide (PySem.W.findIn K (.ref (He.ga K "BadDoor")) "at" = some none)
def ck95 (K : Fr) : Bool := decide (PySem.W.findIn K (.ref (He.ga K "BadDoor")) "__init__" = some (some (.ref (He.ma K (He.ga K "BadDoor") "__init__"))))
def ck96 (K : Fr) : Bool := decide (PySem.W.typeIn K (.ref (He.ma K (He.ga K "BadDoor") "__init__")) = some (.type "function"))
def ck97 (K : Fr) : Bool := decide (PySem.W.keepIn K (.ref (He.ma K (He.ga K "BadDoor") "__init__")) = true)
def ck98 (K : Fr) : Bool := decide (PySem.W.recIn K (cmQ K (He.ga K "Door") "of") "classmethod" = some (.ref (cmF K (He.ga K "Door") "of" "classmethod") :: (cmR K (He.ga K "Door") "of" "classmethod")))
def ck99 (K : Fr) : Bool := decide (PySem.W.fnIn K (cmF K (He.ga K "Door") "of" "classmethod") = true)
def ck100 (K : Fr) : Bool := decide (PySem.W.keepIn K (.ref (cmF K (He.ga K "Door") "of" "classmethod")) = true)
def ck101 (K : Fr) : Bool := decide (PySem.W.readsIn K (He.ga K "Door") (.type "type") = true)
def ck102 (K : Fr) : Bool := decide (PySem.W.specialIn K (.ref (He.ga K "Door")) "__getattribute__" = some (some (.builtin "type.__getattribute__")))
def ck103 (K : Fr) : Bool := strB K "LETTERS" LET
def ck104 (K : Fr) : Bool := strB K "DIGITS" DIG
def ck105 (K : Fr) : Bool := decide (PySem.W.nsIn K mainGlobals "RESERVED" = some (some (.ref (He.ga K "RESERVED"))))
def ck106 (K : Fr) : Bool := He.tupB K "RESERVED" (RES.map He.Dv.str)
def ck107 (K : Fr) : Bool := decide (PySem.W.nsIn K mainGlobals "SIGNS" = some (some (.ref (He.ga K "SIGNS"))))
def ck108 (K : Fr) : Bool := decide (PySem.W.nsIn K mainGlobals "CROSSING" = some (some (.ref (He.ga K "CROSSING"))))
def ck109 (K : Fr) : Bool := decide (PySem.W.findIn K (.ref (He.ga K "Door")) "__init__" = some (some (.ref (He.ma K (He.ga K "Door") "__init__"))))
def ck110 (K : Fr) : Bool := decide (PySem.W.isFn K (.ref (He.ma K (He.ga K "Door") "__init__")) = true)
def ck111 (K : Fr) : Bool := decide (PySem.W.findIn K (.ref (He.ga K "Door")) "__class__" = some (some (.builtin "object.__class__")))
def ck112 (K : Fr) : Bool := decide (PySem.W.specialIn K (.builtin "object.__class__") "__get__" = some (some (.builtin "getset_descriptor.__get__")))
def ck113 (K : Fr) : Bool := decide (PySem.W.takesIn K (.builtin "object.__class__") = some true)
def ck114 (K : Fr) : Bool := decide (PySem.W.mroIn K (He.ga K "Door") (.type "object") = some true)
def ck115 (K : Fr) : Bool := decide (PySem.W.findIn K (.ref (He.ga K "BadDoor")) "__getattribute__" = some (some (.builtin "BaseException.__getattribute__")))
def ck116 (K : Fr) : Bool := decide (PySem.W.findIn K (.ref (He.ga K "BadDoor")) "__getattr__" = some none)
def ck117 (K : Fr) : Bool := decide (PySem.W.hasDictIn K (He.ga K "BadDoor") = true)
def ck118 (K : Fr) : Bool := decide (PySem.W.findIn K (.ref (He.ga K "BadDoor")) "__class__" = some (some (.builtin "object.__class__")))
def ck119 (K : Fr) : Bool := decide (PySem.W.mroIn K (He.ga K "BadDoor") (.type "object") = some true)
def ck120 (K : Fr) : Bool := decide (PySem.W.nsIn K mainGlobals "CountsheldError" = some (some (.ref (He.ga K "CountsheldError"))))
def ck121 (K : Fr) : Bool := decide (PySem.W.isClsIn K (He.ga K "CountsheldError") = true)
def ck122 (K : Fr) : Bool := decide (PySem.W.typeIn K (.ref (He.ga K "CountsheldError")) = some (.type "type"))
def ck123 (K : Fr) : Bool := decide (PySem.W.subIn K (.ref (He.ga K "BadDoor")) (.ref (He.ga K "CountsheldError")) = some true)
def ck124 (K : Fr) : Bool := decide (PySem.W.nsIn K mainGlobals "len" = some none)
def ck125 (K : Fr) : Bool := decide (PySem.W.nsIn K mainGlobals "int" = some none)
def ck126 (K : Fr) : Bool := decide (PySem.W.nsIn K mainGlobals "abs" = some none)
def ck127 (K : Fr) : Bool := decide (PySem.W.nsIn K mainGlobals "list" = some none)
def ck128 (K : Fr) : Bool := decide (PySem.W.nsIn K mainGlobals "range" = some none)
def ck129 (K : Fr) : Bool := decide (PySem.W.nsIn K mainGlobals "sorted" = some none)
def ck130 (K : Fr) : Bool := decide (PySem.W.nsIn K mainGlobals "str" = some none)
def ck131 (K : Fr) : Bool := decide (PySem.W.nsIn K mainGlobals "isinstance" = some none)
def ck132 (K : Fr) : Bool := decide (PySem.W.nsIn K mainGlobals "sum" = some none)
def ck133 (K : Fr) : Bool := decide (PySem.W.nsIn K mainGlobals "tuple" = some none)
def ck134 (K : Fr) : Bool := decide (PySem.W.nsIn K mainGlobals "dict" = some none)
def ck135 (K : Fr) : Bool := decide (PySem.W.nsIn K mainGlobals "all" = some none)
def ck136 (K : Fr) : Bool := decide (PySem.W.nsIn K mainGlobals "bool" = some none)
def ck137 (K : Fr) : Bool := decide (PySem.W.nsIn K mainGlobals "enumerate" = some none)
def ck138 (K : Fr) : Bool := decide (PySem.W.nsIn K mainGlobals "any" = some none)
def cks_0 : List (Fr → Bool) := [ck0, ck1, ck2, ck3, ck4, ck5, ck6, ck7, ck8, ck9, ck10, ck11, ck12, ck13, ck14, ck15, ck16, ck17, ck18, ck19, ck20, ck21, ck22, ck23, ck24, ck25, ck26, ck27, ck28, ck29]
def cks_1 : List (Fr → Bool) := [ck30, ck31, ck32, ck33, ck34, ck35, ck36, ck37, ck38, ck39, ck40, ck41, ck42, ck43, ck44, ck45, ck46, ck47, ck48, ck49, ck50, ck51, ck52, ck53, ck54, ck55, ck56, ck57, ck58, ck59]
def cks_2 : List (Fr → Bool) := [ck60, ck61, ck62, ck63, ck64, ck65, ck66, ck67, ck68, ck69, ck70, ck71, ck72, ck73, ck74, ck75, ck76, ck77, ck78, ck79, ck80, ck81, ck82, ck83, ck84, ck85, ck86, ck87, ck88, ck89]
def cks_3 : List (Fr → Bool) := [ck90, ck91, ck92, ck93, ck94, ck95, ck96, ck97, ck98, ck99, ck100, ck101, ck102, ck103, ck104, ck105, ck106, ck107, ck108, ck109, ck110, ck111, ck112, ck113, ck114, ck115, ck116, ck117, ck118, ck119]
def cks_4 : List (Fr → Bool) := [ck120, ck121, ck122, ck123, ck124, ck125, ck126, ck127, ck128, ck129, ck130, ck131, ck132, ck133, ck134, ck135, ck136, ck137, ck138]
def cks : List (Fr → Bool) := cks_0 ++ (cks_1 ++ (cks_2 ++ (cks_3 ++ (cks_4))))
def fns_0 : List FnA := [fd0, fd1, fd2, fd3, fd4, fd5, fd6, fd7, fd8, fd9, fd10, fd11, fd12, fd13, fd14, fd15, fd16, fd17, fd18, fd19, fd20, fd21, fd22, fd23, fd24, fd25, fd26, fd27, fd28, fd29]
def fns_1 : List FnA := [fd30, fd31, fd32, fd33, fd34, fd35, fd36, fd37]
def fns : List FnA := fns_0 ++ (fns_1)
def nms_0 : List Str := ["_wall", "__name__", "CountsheldError", "BadDoor", "LETTERS", "DIGITS", "RESERVED", "is_word", "is_kind", "is_digit", "distinct", "SIGNS", "CROSSING", "split_at", "read_kinds", "read_test", "read_tests", "read_arrow", "read_part", "how_many", "read_do", "asks_other", "read_line", "tests_of", "parts_of", "step_touches", "step_names_row", "Door", "_law_source", "_law_mixed"]
def nms_1 : List Str := ["_law_draw", "_law_word", "_law_kind", "_law_kinds", "_law_some", "_law_test", "_law_part", "_law_do", "_law_lines", "_law_has", "_law_at", "_law_first_faults", "_law_second_faults", "_law_each"]
def nms : List Str := nms_0 ++ (nms_1)
abbrev hkK : PySem.W.Hook := hookK 8 cks fns
def obT (s : PySem.W.SharedT) : AlK := obsKG 8 cks fns (HandSHeadRun.getT s)
theorem obT_eq (s : PySem.W.SharedT) : obT s = hkK.obs s.abs := obsKG_eq (HandSHeadRun.getT_eq s)
set_option maxHeartbeats 0 in
theorem runK (w : World) : HandSHeadRun.RunEq R0 (PySem.W.view R0.prog [47]) hkK obT 60000 nms w := by
  intro os
  kernel_rfl
theorem factsK {w : World} {K : Fr} {h : Heap} {mg : Str → Option Value} {fa : Addr} (X : K.In h) (G : h.Ns mainGlobals mg) (hfa : mg "law" = some (.ref fa)) (c : SaysK cks fns K) : ∃ fd : FuncData, (∀ (s : Shared) (v : Value), BindsTo s fd ⟨[v], []⟩ [("_law_script", v)]) ∧ ∀ base : Heap, K.In base → base.Ns mainGlobals mg → FnOk (PySem.Challenge.rw_countsheld_k24_lines_refused).prog w K mg base CX0 13 fa fd ["_law_script"] (spLawD K) := by
  obtain ⟨oc_isword, od_isword, sl_isword, kV_isword, dc_isword, pm_isword, an_isword, cd_isword, ct_isword, l_isword, c_isword⟩ := c.fn 0 (d := fd0) rfl rfl
  obtain ⟨oc_distinct, od_distinct, sl_distinct, kV_distinct, dc_distinct, pm_distinct, an_distinct, cd_distinct, ct_distinct, l_distinct, c_distinct⟩ := c.fn 1 (d := fd1) rfl rfl
  obtain ⟨oc_source, od_source, sl_source, kV_source, dc_source, pm_source, an_source, cd_source, ct_source, l_source, c_source⟩ := c.fn 2 (d := fd2) rfl rfl
  obtain ⟨oc_mixed, od_mixed, sl_mixed, kV_mixed, dc_mixed, pm_mixed, an_mixed, cd_mixed, ct_mixed, l_mixed, c_mixed⟩ := c.fn 3 (d := fd3) rfl rfl
  obtain ⟨oc_draw, od_draw, sl_draw, kV_draw, dc_draw, pm_draw, an_draw, cd_draw, ct_draw, l_draw, c_draw⟩ := c.fn 4 (d := fd4) rfl rfl
  obtain ⟨oc_word, od_word, sl_word, kV_word, dc_word, pm_word, an_word, cd_word, ct_word, l_word, c_word⟩ := c.fn 5 (d := fd5) rfl rfl
  obtain ⟨oc_iskind, od_iskind, sl_iskind, kV_iskind, dc_iskind, pm_iskind, an_iskind, cd_iskind, ct_iskind, l_iskind, c_iskind⟩ := c.fn 6 (d := fd6) rfl rfl
  obtain ⟨oc_spl, od_spl, sl_spl, kV_spl, dc_spl, pm_spl, an_spl, cd_spl, ct_spl, l_spl, c_spl⟩ := c.fn 7 (d := fd7) rfl rfl
  obtain ⟨oc_rk, od_rk, sl_rk, kV_rk, dc_rk, pm_rk, an_rk, cd_rk, ct_rk, l_rk, c_rk⟩ := c.fn 8 (d := fd8) rfl rfl
  obtain ⟨oc_dg, od_dg, sl_dg, kV_dg, dc_dg, pm_dg, an_dg, cd_dg, ct_dg, l_dg, c_dg⟩ := c.fn 9 (d := fd9) rfl rfl
  obtain ⟨oc_rt, od_rt, sl_rt, kV_rt, dc_rt, pm_rt, an_rt, cd_rt, ct_rt, l_rt, c_rt⟩ := c.fn 10 (d := fd10) rfl rfl
  obtain ⟨oc_rs, od_rs, sl_rs, kV_rs, dc_rs, pm_rs, an_rs, cd_rs, ct_rs, l_rs, c_rs⟩ := c.fn 11 (d := fd11) rfl rfl
  obtain ⟨oc_ra, od_ra, sl_ra, kV_ra, dc_ra, pm_ra, an_ra, cd_ra, ct_ra, l_ra, c_ra⟩ := c.fn 12 (d := fd12) rfl rfl
  obtain ⟨oc_rp, od_rp, sl_rp, kV_rp, dc_rp, pm_rp, an_rp, cd_rp, ct_rp, l_rp, c_rp⟩ := c.fn 13 (d := fd13) rfl rfl
  obtain ⟨oc_hm, od_hm, sl_hm, kV_hm, dc_hm, pm_hm, an_hm, cd_hm, ct_hm, l_hm, c_hm⟩ := c.fn 14 (d := fd14) rfl rfl
  obtain ⟨oc_ao, od_ao, sl_ao, kV_ao, dc_ao, pm_ao, an_ao, cd_ao, ct_ao, l_ao, c_ao⟩ := c.fn 15 (d := fd15) rfl rfl
  obtain ⟨oc_rd, od_rd, sl_rd, kV_rd, dc_rd, pm_rd, an_rd, cd_rd, ct_rd, l_rd, c_rd⟩ := c.fn 16 (d := fd16) rfl rfl
  obtain ⟨oc_rl, od_rl, sl_rl, kV_rl, dc_rl, pm_rl, an_rl, cd_rl, ct_rl, l_rl, c_rl⟩ := c.fn 17 (d := fd17) rfl rfl
  obtain ⟨oc_to, od_to, sl_to, kV_to, dc_to, pm_to, an_to, cd_to, ct_to, l_to, c_to⟩ := c.fn 18 (d := fd18) rfl rfl
  obtain ⟨oc_po, od_po, sl_po, kV_po, dc_po, pm_po, an_po, cd_po, ct_po, l_po, c_po⟩ := c.fn 19 (d := fd19) rfl rfl
  obtain ⟨oc_st, od_st, sl_st, kV_st, dc_st, pm_st, an_st, cd_st, ct_st, l_st, c_st⟩ := c.fn 20 (d := fd20) rfl rfl
  obtain ⟨oc_sn, od_sn, sl_sn, kV_sn, dc_sn, pm_sn, an_sn, cd_sn, ct_sn, l_sn, c_sn⟩ := c.fn 21 (d := fd21) rfl rfl
  obtain ⟨oc_kind, od_kind, sl_kind, kV_kind, dc_kind, pm_kind, an_kind, cd_kind, ct_kind, l_kind, c_kind⟩ := c.fn 22 (d := fd22) rfl rfl
  obtain ⟨oc_kinds, od_kinds, sl_kinds, kV_kinds, dc_kinds, pm_kinds, an_kinds, cd_kinds, ct_kinds, l_kinds, c_kinds⟩ := c.fn 23 (d := fd23) rfl rfl
  obtain ⟨oc_has, od_has, sl_has, kV_has, dc_has, pm_has, an_has, cd_has, ct_has, l_has, c_has⟩ := c.fn 24 (d := fd24) rfl rfl
  obtain ⟨oc_some, od_some, sl_some, kV_some, dc_some, pm_some, an_some, cd_some, ct_some, l_some, c_some⟩ := c.fn 25 (d := fd25) rfl rfl
  obtain ⟨oc_test, od_test, sl_test, kV_test, dc_test, pm_test, an_test, cd_test, ct_test, l_test, c_test⟩ := c.fn 26 (d := fd26) rfl rfl
  obtain ⟨oc_part, od_part, sl_part, kV_part, dc_part, pm_part, an_part, cd_part, ct_part, l_part, c_part⟩ := c.fn 27 (d := fd27) rfl rfl
  obtain ⟨oc_do, od_do, sl_do, kV_do, dc_do, pm_do, an_do, cd_do, ct_do, l_do, c_do⟩ := c.fn 28 (d := fd28) rfl rfl
  obtain ⟨oc_lines, od_lines, sl_lines, kV_lines, dc_lines, pm_lines, an_lines, cd_lines, ct_lines, l_lines, c_lines⟩ := c.fn 29 (d := fd29) rfl rfl
  obtain ⟨oc_lat, od_lat, sl_lat, kV_lat, dc_lat, pm_lat, an_lat, cd_lat, ct_lat, l_lat, c_lat⟩ := c.fn 30 (d := fd30) rfl rfl
  obtain ⟨oc_f1, od_f1, sl_f1, kV_f1, dc_f1, pm_f1, an_f1, cd_f1, ct_f1, l_f1, c_f1⟩ := c.fn 31 (d := fd31) rfl rfl
  obtain ⟨oc_f2, od_f2, sl_f2, kV_f2, dc_f2, pm_f2, an_f2, cd_f2, ct_f2, l_f2, c_f2⟩ := c.fn 32 (d := fd32) rfl rfl
  obtain ⟨oc_each, od_each, sl_each, kV_each, dc_each, pm_each, an_each, cd_each, ct_each, l_each, c_each⟩ := c.fn 33 (d := fd33) rfl rfl
  obtain ⟨oc_law, od_law, sl_law, kV_law, dc_law, pm_law, an_law, cd_law, ct_law, l_law, c_law⟩ := c.fn 34 (d := fd34) rfl rfl
  obtain ⟨oc_xbd, od_xbd, sl_xbd, kV_xbd, dc_xbd, pm_xbd, an_xbd, cd_xbd, ct_xbd, l_xbd, c_xbd⟩ := c.fn 35 (d := fd35) rfl rfl
  obtain ⟨oc_dof, od_dof, sl_dof, kV_dof, dc_dof, pm_dof, an_dof, cd_dof, ct_dof, l_dof, c_dof⟩ := c.fn 36 (d := fd36) rfl rfl
  obtain ⟨oc_riD, od_riD, sl_riD, kV_riD, dc_riD, pm_riD, an_riD, cd_riD, ct_riD, l_riD, c_riD⟩ := c.fn 37 (d := fd37) rfl rfl
  obtain ⟨tk_a_LET, h_a_LET⟩ := strB_ok (c.ck 103 (f := ck103) rfl)
  obtain ⟨tk_a_DIG, h_a_DIG⟩ := strB_ok (c.ck 104 (f := ck104) rfl)
  exact all_mk (l := PySem.Challenge.rw_countsheld_k24_lines_refused) X G hfa (of_decide_eq_true (c.ck 4 (f := ck4) rfl)) l_isword c_isword (of_decide_eq_true (c.ck 5 (f := ck5) rfl)) (of_decide_eq_true (c.ck 6 (f := ck6) rfl)) l_distinct c_distinct (of_decide_eq_true (c.ck 7 (f := ck7) rfl)) (of_decide_eq_true (c.ck 8 (f := ck8) rfl)) l_source c_source (of_decide_eq_true (c.ck 9 (f := ck9) rfl)) (of_decide_eq_true (c.ck 10 (f := ck10) rfl)) l_mixed c_mixed (of_decide_eq_true (c.ck 11 (f := ck11) rfl)) (of_decide_eq_true (c.ck 12 (f := ck12) rfl)) l_draw c_draw (of_decide_eq_true (c.ck 13 (f := ck13) rfl)) (of_decide_eq_true (c.ck 14 (f := ck14) rfl)) l_word c_word (of_decide_eq_true (c.ck 15 (f := ck15) rfl)) (of_decide_eq_true (c.ck 16 (f := ck16) rfl)) l_iskind c_iskind (of_decide_eq_true (c.ck 17 (f := ck17) rfl)) (of_decide_eq_true (c.ck 18 (f := ck18) rfl)) l_spl c_spl (of_decide_eq_true (c.ck 19 (f := ck19) rfl)) (of_decide_eq_true (c.ck 20 (f := ck20) rfl)) l_rk c_rk (of_decide_eq_true (c.ck 21 (f := ck21) rfl)) (of_decide_eq_true (c.ck 22 (f := ck22) rfl)) l_dg c_dg (of_decide_eq_true (c.ck 23 (f := ck23) rfl)) (of_decide_eq_true (c.ck 24 (f := ck24) rfl)) l_rt c_rt (of_decide_eq_true (c.ck 25 (f := ck25) rfl)) (of_decide_eq_true (c.ck 26 (f := ck26) rfl)) l_rs c_rs (of_decide_eq_true (c.ck 27 (f := ck27) rfl)) (of_decide_eq_true (c.ck 28 (f := ck28) rfl)) l_ra c_ra (of_decide_eq_true (c.ck 29 (f := ck29) rfl)) (of_decide_eq_true (c.ck 30 (f := ck30) rfl)) l_rp c_rp (of_decide_eq_true (c.ck 31 (f := ck31) rfl)) (of_decide_eq_true (c.ck 32 (f := ck32) rfl)) l_hm c_hm (of_decide_eq_true (c.ck 33 (f := ck33) rfl)) (of_decide_eq_true (c.ck 34 (f := ck34) rfl)) l_ao c_ao (of_decide_eq_true (c.ck 35 (f := ck35) rfl)) (of_decide_eq_true (c.ck 36 (f := ck36) rfl)) l_rd c_rd (of_decide_eq_true (c.ck 37 (f := ck37) rfl)) (of_decide_eq_true (c.ck 38 (f := ck38) rfl)) l_rl c_rl (of_decide_eq_true (c.ck 39 (f := ck39) rfl)) (of_decide_eq_true (c.ck 40 (f := ck40) rfl)) l_to c_to (of_decide_eq_true (c.ck 41 (f := ck41) rfl)) (of_decide_eq_true (c.ck 42 (f := ck42) rfl)) l_po c_po (of_decide_eq_true (c.ck 43 (f := ck43) rfl)) (of_decide_eq_true (c.ck 44 (f := ck44) rfl)) l_st c_st (of_decide_eq_true (c.ck 45 (f := ck45) rfl)) (of_decide_eq_true (c.ck 46 (f := ck46) rfl)) l_sn c_sn (of_decide_eq_true (c.ck 47 (f := ck47) rfl)) (of_decide_eq_true (c.ck 48 (f := ck48) rfl)) l_kind c_kind (of_decide_eq_true (c.ck 49 (f := ck49) rfl)) (of_decide_eq_true (c.ck 50 (f := ck50) rfl)) l_kinds c_kinds (of_decide_eq_true (c.ck 51 (f := ck51) rfl)) (of_decide_eq_true (c.ck 52 (f := ck52) rfl)) l_has c_has (of_decide_eq_true (c.ck 53 (f := ck53) rfl)) (of_decide_eq_true (c.ck 54 (f := ck54) rfl)) l_some c_some (of_decide_eq_true (c.ck 55 (f := ck55) rfl)) (of_decide_eq_true (c.ck 56 (f := ck56) rfl)) l_test c_test (of_decide_eq_true (c.ck 57 (f := ck57) rfl)) (of_decide_eq_true (c.ck 58 (f := ck58) rfl)) l_part c_part (of_decide_eq_true (c.ck 59 (f := ck59) rfl)) (of_decide_eq_true (c.ck 60 (f := ck60) rfl)) l_do c_do (of_decide_eq_true (c.ck 61 (f := ck61) rfl)) (of_decide_eq_true (c.ck 62 (f := ck62) rfl)) l_lines c_lines (of_decide_eq_true (c.ck 63 (f := ck63) rfl)) (of_decide_eq_true (c.ck 64 (f := ck64) rfl)) l_lat c_lat (of_decide_eq_true (c.ck 65 (f := ck65) rfl)) (of_decide_eq_true (c.ck 66 (f := ck66) rfl)) l_f1 c_f1 (of_decide_eq_true (c.ck 67 (f := ck67) rfl)) (of_decide_eq_true (c.ck 68 (f := ck68) rfl)) l_f2 c_f2 (of_decide_eq_true (c.ck 69 (f := ck69) rfl)) (of_decide_eq_true (c.ck 70 (f := ck70) rfl)) l_each c_each (of_decide_eq_true (c.ck 71 (f := ck71) rfl)) (of_decide_eq_true (c.ck 72 (f := ck72) rfl)) l_law c_law (of_decide_eq_true (c.ck 73 (f := ck73) rfl)) (of_decide_eq_true (c.ck 74 (f := ck74) rfl)) (of_decide_eq_true (c.ck 75 (f := ck75) rfl)) (of_decide_eq_true (c.ck 76 (f := ck76) rfl)) (of_decide_eq_true (c.ck 77 (f := ck77) rfl)) (of_decide_eq_true (c.ck 78 (f := ck78) rfl)) (of_decide_eq_true (c.ck 79 (f := ck79) rfl)) (of_decide_eq_true (c.ck 80 (f := ck80) rfl)) (of_decide_eq_true (c.ck 81 (f := ck81) rfl)) (of_decide_eq_true (c.ck 82 (f := ck82) rfl)) (of_decide_eq_true (c.ck 83 (f := ck83) rfl)) (of_decide_eq_true (c.ck 84 (f := ck84) rfl)) (of_decide_eq_true (c.ck 85 (f := ck85) rfl)) (of_decide_eq_true (c.ck 86 (f := ck86) rfl)) (of_decide_eq_true (c.ck 87 (f := ck87) rfl)) (exoB_ok (c.ck 0 (f := ck0) rfl)) (of_decide_eq_true (c.ck 88 (f := ck88) rfl)) (of_decide_eq_true (c.ck 89 (f := ck89) rfl)) (of_decide_eq_true (c.ck 90 (f := ck90) rfl)) (of_decide_eq_true (c.ck 91 (f := ck91) rfl)) (of_decide_eq_true (c.ck 92 (f := ck92) rfl)) (of_decide_eq_true (c.ck 93 (f := ck93) rfl)) (of_decide_eq_true (c.ck 94 (f := ck94) rfl)) (of_decide_eq_true (c.ck 95 (f := ck95) rfl)) (of_decide_eq_true (c.ck 96 (f := ck96) rfl)) l_xbd c_xbd (of_decide_eq_true (c.ck 97 (f := ck97) rfl)) (cmB_ok (c.ck 1 (f := ck1) rfl)) (of_decide_eq_true (c.ck 98 (f := ck98) rfl)) l_dof c_dof (of_decide_eq_true (c.ck 99 (f := ck99) rfl)) (of_decide_eq_true (c.ck 100 (f := ck100) rfl)) (of_decide_eq_true (c.ck 101 (f := ck101) rfl)) (of_decide_eq_true (c.ck 102 (f := ck102) rfl)) (h_a_LET) (h_a_DIG) (of_decide_eq_true (c.ck 105 (f := ck105) rfl)) (tup_at (c.ck 106 (f := ck106) rfl)) (of_decide_eq_true (c.ck 107 (f := ck107) rfl)) (tup_at (c.ck 2 (f := ck2) rfl)) (of_decide_eq_true (c.ck 108 (f := ck108) rfl)) (tup_at (c.ck 3 (f := ck3) rfl)) (of_decide_eq_true (c.ck 109 (f := ck109) rfl)) (of_decide_eq_true (c.ck 110 (f := ck110) rfl)) l_riD c_riD (of_decide_eq_true (c.ck 111 (f := ck111) rfl)) (of_decide_eq_true (c.ck 112 (f := ck112) rfl)) (of_decide_eq_true (c.ck 113 (f := ck113) rfl)) (of_decide_eq_true (c.ck 114 (f := ck114) rfl)) (of_decide_eq_true (c.ck 115 (f := ck115) rfl)) (of_decide_eq_true (c.ck 116 (f := ck116) rfl)) (of_decide_eq_true (c.ck 117 (f := ck117) rfl)) (of_decide_eq_true (c.ck 118 (f := ck118) rfl)) (of_decide_eq_true (c.ck 119 (f := ck119) rfl)) (of_decide_eq_true (c.ck 120 (f := ck120) rfl)) (of_decide_eq_true (c.ck 121 (f := ck121) rfl)) (of_decide_eq_true (c.ck 122 (f := ck122) rfl)) (of_decide_eq_true (c.ck 123 (f := ck123) rfl)) (of_decide_eq_true (c.ck 124 (f := ck124) rfl)) (of_decide_eq_true (c.ck 125 (f := ck125) rfl)) (of_decide_eq_true (c.ck 126 (f := ck126) rfl)) (of_decide_eq_true (c.ck 127 (f := ck127) rfl)) (of_decide_eq_true (c.ck 128 (f := ck128) rfl)) (of_decide_eq_true (c.ck 129 (f := ck129) rfl)) (of_decide_eq_true (c.ck 130 (f := ck130) rfl)) (of_decide_eq_true (c.ck 131 (f := ck131) rfl)) (of_decide_eq_true (c.ck 132 (f := ck132) rfl)) (of_decide_eq_true (c.ck 133 (f := ck133) rfl)) (of_decide_eq_true (c.ck 134 (f := ck134) rfl)) (of_decide_eq_true (c.ck 135 (f := ck135) rfl)) (of_decide_eq_true (c.ck 136 (f := ck136) rfl)) (of_decide_eq_true (c.ck 137 (f := ck137) rfl)) (of_decide_eq_true (c.ck 138 (f := ck138) rfl))
end Cs
open PySem PySem.W PySem.Calls PyProof.Rows
set_option maxRecDepth 100000 in
set_option maxHeartbeats 0 in
theorem PySem.Challenge.cw_countsheld_k24_lines_refused_holds : PySem.Challenge.rw_countsheld_k24_lines_refused.Holds := by
  w_on; o_law
  refine HandSHeadRun.head_any (r := Cs.R0) (q := view Cs.R0.prog [47]) (H := Cs.hkK) (ob := Cs.obT) (M := 60000) (loose := Cs.nms) (d := HandSHeadRun.topDef Cs.R0.prog 47) (kwd := []) Cs.obT_eq
    (by kernel_rfl) (fun s => by kernel_rfl) Cs.runK (by kernel_rfl) (by kernel_rfl) (by kernel_rfl) (by rfl) (by first | assumption | decide +kernel) (by decide +kernel) ⟨rfl, rfl, rfl, rfl, rfl, by decide +kernel⟩ ?hw ?hc
  case hw => w_witness2
  case hc =>
    refine L2.walk_ofE (l := PySem.Challenge.rw_countsheld_k24_lines_refused) (n := 63) (k := 13) (x := "_law_script") (CX := L2.CX0) rfl (by decide) (by kernel_rfl) ⟨rfl, by decide, by decide⟩ ?F (fun _ _ _ _ z => z)
    intro w mg fa h Y G hmg0
    obtain ⟨K, KX, c⟩ := Y
    have hmg : mg ("law" : PySem.Str) = some (.ref fa) := by
      have e : (HandSHeadRun.topDef Cs.R0.prog 47).name = ("law" : PySem.Str) := by kernel_rfl
      rw [← e]
      exact hmg0
    obtain ⟨fd, hb, hF⟩ := Cs.factsK (w := w) KX G hmg c
    exact ⟨K, fd, Dr.spLawD K, KX, hb, fun H a ns hl _ hS => ⟨a, ns, rfl, hS, hl, fun _ => rfl⟩, hF⟩
