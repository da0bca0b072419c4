import PyProof.Rows.All
import Wide.All
import OpenK.AllK
import Wide.FinOn
import KE.GoesMore
import HandS.ForMost
import KE.GoesEnumKw
import HandS.Wide
import HandS.Style
import HandS.Defaults
import HandS.Flow
import KE.KEqSeq
import HandS.Replace
import PyProof.ListStr
import PyProof.StrOps2
import HandS.SetBool
import HandS.SetKeys
import HandS.DictComp
import HandS.Walk
import PyProof.DictFindH
import HandS.Codes
import HandS.IsInst
import HandS.MakeKw
import HandS.TupAny
import HandS.TupLe
import HandS.Deep
import HandS.SortInts
import HandS.SortKw
import KE.SortData
import KE.DataMinMax
import PySem.Challenge.RW_bandprint_k05_whole_passes_add_up
set_option Elab.async false
set_option linter.all false
set_option maxRecDepth 100000
set_option maxHeartbeats 2000000
namespace Zs
open PySem
open PySem.Sem (wp)
/-- a zip made with strict = b -/
abbrev IsZipB (b : Bool) (h : Heap) (z TI TO : Addr) (f0 : Value) : Prop :=
  h.get? z = some { cls := .type "zip", dict := none, data := .fields #[f0, .bool false, .bool b, .ref TI, .ref TO], slots := #[] }
section
variable {prog : Program} {w : World} {A : Around} {E : Value → Shared → Prop} {s : Shared}
variable {it : Addr} {fp : List Addr} {n i : Nat} {P : Nat → Value → Prop} {St : Nat → Heap → Prop}
theorem draw_item {Q : Option Value → Shared → Prop} (D : Draws prog w A it fp n P St) (hi : i < n)
    (st : St i s.heap)
    (hQ : ∀ x h' tk, P i x → St (i + 1) h' → Heap.SameBut it s.heap h' →
      Q (some x) { s with heap := h', toks := tk }) :
    wpAny (model prog w) A (Builtin.SmallTypes.nextOrEnd (.ref it)) Q E s := by
  unfold Builtin.SmallTypes.nextOrEnd
  exact wpAny_bind (wpAny_attempt (D.item i s _ _ hi st
    fun x h' tk p st' sb => wpAny_pure (hQ x h' tk p st' sb)))
theorem draw_done {Q : Option Value → Shared → Prop} (D : Draws prog w A it fp n P St)
    (st : St n s.heap) (hQ : ∀ h', Heap.ExtBut it s.heap h' → Q none { s with heap := h' }) :
    wpAny (model prog w) A (Builtin.SmallTypes.nextOrEnd (.ref it)) Q E s := by
  unfold Builtin.SmallTypes.nextOrEnd
  refine wpAny_bind (wpAny_attempt (D.done s _ _ st fun h' e hk he => ?_))
  obtain ⟨o, ho, hc⟩ := he
  refine wpAny_bind (wpAny_isInstance (T := "StopIteration") (b := true)
    ⟨o, ho, hc⟩ isSubtype_stop ?_)
  exact wpAny_pure (hQ h' hk)
theorem stop_raises {α : Type} {Q : α → Shared → Prop} (hh : A.handled = none)
    (hE : ∀ h' e, (∀ c o, s.heap.get? c = some o → h'.get? c = some o) →
      (∃ o, h'.get? e = some o ∧ o.cls = .type "StopIteration") → E (.ref e) { s with heap := h' }) :
    wpAny (model prog w) A (Builtin.SmallTypes.stopIteration (α := α)) Q E s := by
  unfold Builtin.SmallTypes.stopIteration
  refine wpAny_bind ?_
  simp only [newExc, newTuple]
  refine wpAny_bind (wpAny_newObj_type ?_ (by size_fits))
  refine wpAny_bind (m := firstArgMember _ _) (wpAny_of_eq (a := Value.none) (by first | rfl | (simp only [firstArgMember]; rfl)) ?_)
  refine wpAny_newObj_type ?_ (by size_fits)
  simp only [raiseNew]
  refine wpAny_bind (wpAny_handled ?_)
  rw [hh]
  refine wpAny_bind (wpAny_pure (wpAny_throw ?_))
  exact hE _ _ (fun c o e => Heap.get?_push_of_some _ (Heap.get?_push_of_some _ e))
    ⟨_, Heap.get?_push_size _ rfl, rfl⟩
end
section
variable {prog : Program} {w : World} {A : Around} {E : Value → Shared → Prop} {s : Shared} {z TI TO i1 i2 : Addr} {fp1 fp2 : List Addr}
  {n1 n2 i : Nat} {P1 P2 : Nat → Value → Prop} {St1 St2 : Nat → Heap → Prop} {a1 a2 : Value}
theorem next_item {Q : Value → Shared → Prop} (S : ZipSep2 z TI TO i1 i2 fp1 fp2)
    (D1 : Draws prog w A i1 fp1 n1 P1 St1) (D2 : Draws prog w A i2 fp2 n2 P2 St2)
    (hz : IsZipB true s.heap z TI TO .none) (hTI : IsTupOf2 s.heap TI (.ref i1) (.ref i2))
    (hTO : IsTupOf2 s.heap TO a1 a2) (st1 : St1 i s.heap) (st2 : St2 i s.heap) (l1 : i < n1) (l2 : i < n2)
    (hQ : ∀ x1 x2 h' tk, P1 i x1 → P2 i x2 → IsZipB true h' z TI TO (rawInt s.heap.objs.size) →
      IsTupOf2 h' TO x1 x2 → St1 (i + 1) h' → St2 (i + 1) h' → IsTupOf2 h' s.heap.objs.size x1 x2 →
      h'.objs.size = s.heap.objs.size + 1 →
      (∀ c o, c ≠ z → c ≠ TO → c ≠ i1 → c ≠ i2 → s.heap.get? c = some o → h'.get? c = some o) →
      Q (.ref s.heap.objs.size) { s with heap := h', toks := tk }) :
    wpAny (model prog w) A (Builtin.«zip.__next__» ⟨[.ref z], []⟩)
      (fun fin s' => ∃ v, fin = .done (.ret v) ∧ Q v s') E s := by
  obtain ⟨hp, g, d, tk0, os⟩ := s
  show wpAny _ _ (field (.ref z) 2 >>= _) _ _ _
  refine wpAny_bind (wpAny_field hz rfl (x := .bool true) rfl ?_)
  show wpAny _ _ (field (.ref z) 3 >>= _) _ _ _
  refine wpAny_bind (wpAny_field hz rfl (x := .ref TI) rfl ?_)
  refine wpAny_bind (wpAny_seqItems hTI rfl ?_)
  show wpAny _ _ (Builtin.SmallTypes.ownedTupleIsFree (.ref z) >>= _) _ _ _
  refine wpAny_bind ?_
  unfold Builtin.SmallTypes.ownedTupleIsFree
  refine wpAny_bind (wpAny_field hz rfl (x := .none) rfl (wpAny_pure ?_))
  simp only [if_true]
  refine wpAny_bind (wpAny_rule ?_)
  refine wpAny_bind (wpAny_field hz rfl (x := .ref TO) rfl ?_)
  refine wpAny_bind (wpAny_setField_rec hz (by simp) fun g0 hz0 s0 => ?_)
  replace hz0 : IsZipB true g0 z TI TO .ellipsis := hz0
  replace s0 : Heap.SameBut z hp g0 := s0
  refine wpAny_bind ?_
  simp only [List.zipIdx_cons, List.zipIdx_nil, List.forIn_cons, List.forIn_nil]
  refine wpAny_bind (wpAny_bind (wpAny_onRaise ?_))
  show wpAny _ _ (Builtin.SmallTypes.nextOrEnd (.ref i1)) _ _ ⟨g0, g, d, tk0, os⟩
  refine draw_item D1 l1 (D1.over st1 s0 S.zf1) fun x1 p1 tk1 hx1 sn1 hp1 => ?_
  replace hp1 : Heap.SameBut i1 g0 p1 := hp1
  have u1 : IsTupOf2 p1 TO a1 a2 := hp1.extBut _ _ S.Ti1 (s0.extBut _ _ S.TOz hTO)
  refine wpAny_bind (wpAny_seqItems (s := ⟨p1, g, d, tk1, os⟩) u1 rfl ?_)
  refine wpAny_bind (updateSeq_IsTupOf2 (s := ⟨p1, g, d, tk1, os⟩) u1 fun g1 t1 s1 => ?_)
  replace t1 : IsTupOf2 g1 TO x1 a2 := t1
  replace s1 : Heap.SameBut TO p1 g1 := s1
  refine wpAny_bind (wpAny_letGo (wpAny_pure ?_))
  refine wpAny_bind (wpAny_bind (wpAny_onRaise ?_))
  show wpAny _ _ (Builtin.SmallTypes.nextOrEnd (.ref i2)) _ _ ⟨g1, g, d, tk1, os⟩
  refine draw_item D2 l2 (D2.over (D2.over (D2.over st2 s0 S.zf2) hp1 S.sep1_2) s1 S.Tf2) fun x2 p2 tk2 hx2 sn2 hp2 => ?_
  replace hp2 : Heap.SameBut i2 g1 p2 := hp2
  have u2 : IsTupOf2 p2 TO x1 a2 := hp2.extBut _ _ S.Ti2 t1
  refine wpAny_bind (wpAny_seqItems (s := ⟨p2, g, d, tk2, os⟩) u2 rfl ?_)
  refine wpAny_bind (updateSeq_IsTupOf2 (s := ⟨p2, g, d, tk2, os⟩) u2 fun g2 t2 s2 => ?_)
  replace t2 : IsTupOf2 g2 TO x1 x2 := t2
  replace s2 : Heap.SameBut TO p2 g2 := s2
  refine wpAny_bind (wpAny_letGo (wpAny_pure (wpAny_pure ?_)))
  refine wpAny_bind (wpAny_seqItems (s := ⟨g2, g, d, tk2, os⟩) t2 rfl ?_)
  refine wpAny_bind (wpAny_newTuple ?_)
  have hsz : g2.objs.size = hp.objs.size := by rw [s2.1, hp2.1, s1.1, hp1.1, s0.1]
  have z2 : IsZipB true g2 z TI TO .ellipsis := s2.extBut _ _ S.TOz.symm (hp2.extBut _ _ S.zi2 (s1.extBut _ _ S.TOz.symm (hp1.extBut _ _ S.zi1 hz0)))
  have k2 : ∀ c o, c ≠ z → c ≠ TO → c ≠ i1 → c ≠ i2 → hp.get? c = some o → g2.get? c = some o := fun c o c1 c2 c3 c4 e =>
    s2.extBut _ _ c2 (hp2.extBut _ _ c4 (s1.extBut _ _ c2 (hp1.extBut _ _ c3 (s0.extBut _ _ c1 e))))
  have m1 : St1 (i + 1) g2 := D1.over (D1.over (D1.over sn1 s1 S.Tf1) hp2 S.sep2_1) s2 S.Tf1
  have m2 : St2 (i + 1) g2 := D2.over sn2 s2 S.Tf2
  have hzlt : z < g2.objs.size := Heap.lt_size z2
  show wpAny _ _ (Builtin.SmallTypes.ownedTupleHandOut (.ref z) (.ref g2.objs.size) >>= _) _ _ _
  refine wpAny_bind ?_
  unfold Builtin.SmallTypes.ownedTupleHandOut
  have z3 : IsZipB true (g2.push { cls := .type "tuple", data := .seq #[x1, x2] }) z TI TO .ellipsis := Heap.get?_push_of_some _ z2
  refine wpAny_bind (wpAny_setField_rec z3 (by simp) fun g4 z4 s4 => ?_)
  replace z4 : IsZipB true g4 z TI TO (rawInt g2.objs.size) := z4
  refine wpAny_setField_rec z4 (by simp) fun g5 z5 s5 => ?_
  replace z5 : IsZipB true g5 z TI TO (rawInt g2.objs.size) := z5
  have up : ∀ c o, c ≠ z → g2.get? c = some o → g5.get? c = some o := fun c o c1 e => s5.extBut _ _ c1 (s4.extBut _ _ c1 (Heap.get?_push_of_some _ e))
  have t5 : IsTupOf2 g5 g2.objs.size x1 x2 := s5.extBut _ _ (Nat.ne_of_gt hzlt) (s4.extBut _ _ (Nat.ne_of_gt hzlt) (Heap.get?_push_size _ rfl))
  have n5 : g5.objs.size = g2.objs.size + 1 := by rw [s5.1, s4.1, Heap.size_push]
  rw [hsz] at z5 t5 n5
  refine wpAny_pure ⟨_, rfl, ?_⟩
  show Q (.ref g2.objs.size) _
  rw [hsz]
  exact hQ x1 x2 g5 tk2 hx1 hx2 z5 (up _ _ S.TOz t2) (D1.frame _ _ _ m1 fun b hb o e => up b o (fun q => S.zf1 (q ▸ hb)) e)
    (D2.frame _ _ _ m2 fun b hb o e => up b o (fun q => S.zf2 (q ▸ hb)) e) t5 n5 fun c o c1 c2 c3 c4 e => up c o c1 (k2 c o c1 c2 c3 c4 e)
theorem next_end {Q : Fin → Shared → Prop} (hh : A.handled = none) (S : ZipSep2 z TI TO i1 i2 fp1 fp2)
    (D1 : Draws prog w A i1 fp1 n1 P1 St1) (D2 : Draws prog w A i2 fp2 n2 P2 St2)
    (hz : IsZipB true s.heap z TI TO .none) (hTI : IsTupOf2 s.heap TI (.ref i1) (.ref i2))
    (st1 : St1 n1 s.heap) (st2 : St2 n2 s.heap)
    (hE : ∀ h' e, (∀ c o, c ≠ z → c ≠ TO → c ≠ i1 → c ≠ i2 → s.heap.get? c = some o → h'.get? c = some o) →
      (∃ o, h'.get? e = some o ∧ o.cls = .type "StopIteration") → E (.ref e) { s with heap := h' }) :
    wpAny (model prog w) A (Builtin.«zip.__next__» ⟨[.ref z], []⟩) Q E s := by
  obtain ⟨hp, g, d, tk0, os⟩ := s
  show wpAny _ _ (field (.ref z) 2 >>= _) _ _ _
  refine wpAny_bind (wpAny_field hz rfl (x := .bool true) rfl ?_)
  show wpAny _ _ (field (.ref z) 3 >>= _) _ _ _
  refine wpAny_bind (wpAny_field hz rfl (x := .ref TI) rfl ?_)
  refine wpAny_bind (wpAny_seqItems hTI rfl ?_)
  show wpAny _ _ (Builtin.SmallTypes.ownedTupleIsFree (.ref z) >>= _) _ _ _
  refine wpAny_bind ?_
  unfold Builtin.SmallTypes.ownedTupleIsFree
  refine wpAny_bind (wpAny_field hz rfl (x := .none) rfl (wpAny_pure ?_))
  simp only [if_true]
  refine wpAny_bind (wpAny_rule ?_)
  refine wpAny_bind (wpAny_field hz rfl (x := .ref TO) rfl ?_)
  refine wpAny_bind (wpAny_setField_rec hz (by simp) fun g0 hz0 s0 => ?_)
  replace hz0 : IsZipB true g0 z TI TO .ellipsis := hz0
  replace s0 : Heap.SameBut z hp g0 := s0
  refine wpAny_bind ?_
  simp only [List.zipIdx_cons, List.zipIdx_nil, List.forIn_cons, List.forIn_nil]
  refine wpAny_bind (wpAny_bind (wpAny_onRaise ?_))
  show wpAny _ _ (Builtin.SmallTypes.nextOrEnd (.ref i1)) _ _ ⟨g0, g, d, tk0, os⟩
  refine draw_done D1 (D1.over st1 s0 S.zf1) fun q1 hq1 => ?_
  replace hq1 : Heap.ExtBut i1 g0 q1 := hq1
  have hzq : IsZipB true q1 z TI TO .ellipsis := hq1 _ _ S.zi1 hz0
  refine wpAny_bind (wpAny_setField_rec (s := ⟨q1, g, d, tk0, os⟩) hzq (by simp) fun q2 hz2 s2 => ?_)
  replace s2 : Heap.SameBut z q1 q2 := s2
  refine wpAny_bind ?_
  show wpAny _ _ (_ >>= _) _ _ _
  refine wpAny_bind ?_
  simp only [List.drop_succ_cons, List.drop_zero, List.zipIdx_cons, List.zipIdx_nil, List.forIn_cons, List.forIn_nil]
  have st2' : St2 n2 q2 := D2.frame _ _ _ st2 fun b hb o e =>
    s2.extBut _ _ (fun q => S.zf2 (q ▸ hb)) (hq1 _ _ (fun q => S.sep1_2 (q ▸ hb)) (s0.extBut _ _ (fun q => S.zf2 (q ▸ hb)) e))
  refine wpAny_bind (wpAny_bind (draw_done (s := ⟨q2, g, d, tk0, os⟩) D2 st2' fun q3 hq3 => ?_))
  replace hq3 : Heap.ExtBut i2 q2 q3 := hq3
  refine wpAny_pure (wpAny_pure (wpAny_bind (wpAny_rule ?_)))
  refine stop_raises hh fun q4 e k4 he => ?_
  exact hE q4 e (fun c o c1 c2 c3 c4 x => k4 _ _ (hq3 _ _ c4 (s2.extBut _ _ c1 (hq1 _ _ c3 (s0.extBut _ _ c1 x))))) he
theorem pyNext_item {Q : Option Value → Shared → Prop} (S : ZipSep2 z TI TO i1 i2 fp1 fp2)
    (D1 : Draws prog w A.in1 i1 fp1 n1 P1 St1) (D2 : Draws prog w A.in1 i2 fp2 n2 P2 St2)
    (hz : IsZipB true s.heap z TI TO .none) (hTI : IsTupOf2 s.heap TI (.ref i1) (.ref i2))
    (hTO : IsTupOf2 s.heap TO a1 a2) (st1 : St1 i s.heap) (st2 : St2 i s.heap) (l1 : i < n1) (l2 : i < n2)
    (hQ : ∀ x1 x2 h' tk, P1 i x1 → P2 i x2 → IsZipB true h' z TI TO (rawInt s.heap.objs.size) →
      IsTupOf2 h' TO x1 x2 → St1 (i + 1) h' → St2 (i + 1) h' → IsTupOf2 h' s.heap.objs.size x1 x2 →
      h'.objs.size = s.heap.objs.size + 1 →
      (∀ c o, c ≠ z → c ≠ TO → c ≠ i1 → c ≠ i2 → s.heap.get? c = some o → h'.get? c = some o) →
      Q (some (.ref s.heap.objs.size)) { s with heap := h', toks := tk }) :
    wpAny (model prog w) A (pyNext (.ref z)) Q E s := by
  have hT : s.TypeIs (.ref z) "zip" := ⟨_, hz, rfl⟩
  unfold pyNext
  refine wpAny_bind (wpAny_attempt (wpAny_callSpecial?_slot (name := Str.ofString "__next__") hT F.slot_zip_next
    (wpAny_call_entry F.slot_zip_next hT F.entry_zip_next ?_ (F.args_zip_next_1 _))))
  exact next_item S D1 D2 hz hTI hTO st1 st2 l1 l2
    fun x1 x2 h' tk p1 p2 b1 b2 b3 b4 b5 b6 b7 => wpAny_pure (hQ x1 x2 h' tk p1 p2 b1 b2 b3 b4 b5 b6 b7)
theorem pyNext_end {Q : Option Value → Shared → Prop} (hh : A.handled = none) (S : ZipSep2 z TI TO i1 i2 fp1 fp2)
    (D1 : Draws prog w A.in1 i1 fp1 n1 P1 St1) (D2 : Draws prog w A.in1 i2 fp2 n2 P2 St2)
    (hz : IsZipB true s.heap z TI TO .none) (hTI : IsTupOf2 s.heap TI (.ref i1) (.ref i2))
    (st1 : St1 n1 s.heap) (st2 : St2 n2 s.heap)
    (hQ : ∀ h', (∀ c o, c ≠ z → c ≠ TO → c ≠ i1 → c ≠ i2 → s.heap.get? c = some o → h'.get? c = some o) →
      Q none { s with heap := h' }) :
    wpAny (model prog w) A (pyNext (.ref z)) Q E s := by
  have hT : s.TypeIs (.ref z) "zip" := ⟨_, hz, rfl⟩
  unfold pyNext
  refine wpAny_bind (wpAny_attempt (wpAny_callSpecial?_slot (name := Str.ofString "__next__") hT F.slot_zip_next
    (wpAny_call_entry F.slot_zip_next hT F.entry_zip_next
      (next_end (show A.in1.handled = none from hh) S D1 D2 hz hTI st1 st2 fun h' e hk he => ?_) (F.args_zip_next_1 _))))
  obtain ⟨o, ho, hc⟩ := he
  refine wpAny_bind (wpAny_isInstance (T := "StopIteration") (b := true) ⟨o, ho, hc⟩ isSubtype_stop ?_)
  exact wpAny_pure (hQ _ hk)
/-- either sort of zip -/
theorem pyNextB_item {b : Bool} {Q : Option Value → Shared → Prop} (S : ZipSep2 z TI TO i1 i2 fp1 fp2)
    (D1 : Draws prog w A.in1 i1 fp1 n1 P1 St1) (D2 : Draws prog w A.in1 i2 fp2 n2 P2 St2)
    (hz : IsZipB b s.heap z TI TO .none) (hTI : IsTupOf2 s.heap TI (.ref i1) (.ref i2))
    (hTO : IsTupOf2 s.heap TO a1 a2) (st1 : St1 i s.heap) (st2 : St2 i s.heap) (l1 : i < n1) (l2 : i < n2)
    (hQ : ∀ x1 x2 h' tk, P1 i x1 → P2 i x2 → IsZipB b h' z TI TO (rawInt s.heap.objs.size) →
      IsTupOf2 h' TO x1 x2 → St1 (i + 1) h' → St2 (i + 1) h' → IsTupOf2 h' s.heap.objs.size x1 x2 →
      h'.objs.size = s.heap.objs.size + 1 →
      (∀ c o, c ≠ z → c ≠ TO → c ≠ i1 → c ≠ i2 → s.heap.get? c = some o → h'.get? c = some o) →
      Q (some (.ref s.heap.objs.size)) { s with heap := h', toks := tk }) :
    wpAny (model prog w) A (pyNext (.ref z)) Q E s := by
  cases b with
  | true => exact pyNext_item S D1 D2 hz hTI hTO st1 st2 l1 l2 hQ
  | false => exact wpAny_pyNext_zipD2_item S D1 D2 hz hTI hTO st1 st2 l1 l2 hQ
theorem pyNextB_end {b : Bool} {Q : Option Value → Shared → Prop} (hh : A.handled = none) (S : ZipSep2 z TI TO i1 i2 fp1 fp2)
    (D1 : Draws prog w A.in1 i1 fp1 n1 P1 St1) (D2 : Draws prog w A.in1 i2 fp2 n2 P2 St2)
    (hz : IsZipB b s.heap z TI TO .none) (hTI : IsTupOf2 s.heap TI (.ref i1) (.ref i2)) (hTO : IsTupOf2 s.heap TO a1 a2)
    (st1 : St1 i s.heap) (st2 : St2 i s.heap) (l1 : i ≤ n1) (l2 : i ≤ n2)
    (he : if b = true then i = n1 ∧ i = n2 else i = n1 ∨ i = n2)
    (hQ : ∀ h' tk, (∀ c o, c ≠ z → c ≠ TO → c ≠ i1 → c ≠ i2 → s.heap.get? c = some o → h'.get? c = some o) →
      Q none { s with heap := h', toks := tk }) :
    wpAny (model prog w) A (pyNext (.ref z)) Q E s := by
  cases b with
  | true =>
    obtain ⟨e1, e2⟩ : i = n1 ∧ i = n2 := he
    subst e1
    subst e2
    exact pyNext_end hh S D1 D2 hz hTI st1 st2 fun h' hk => hQ h' s.toks hk
  | false => exact wpAny_pyNext_zipD2_end S D1 D2 hz hTI hTO st1 st2 l1 l2 he hQ
theorem letGoB {b : Bool} {elts : List Expr} {kk : Nat} {pos : Pos} {T : Addr} {Q : Unit → Shared → Prop}
    (hz : IsZipB b s.heap z TI TO (rawInt T))
    (hQ : ∀ h', IsZipB b h' z TI TO .none → Heap.SameBut z s.heap h' → Q () { s with heap := h' }) :
    wpAny (model prog w) A (letOwnedTupleGo (.Tuple elts kk pos) (.ref z) (.ref T)) Q E s := by
  unfold letOwnedTupleGo
  refine wpAny_bind (wpAny_load hz ?_)
  show wpAny _ _ (if (["enumerate", "zip", "dict_itemiterator", "dict_reverseitemiterator", "odict_iterator", "itertools.zip_longest", "itertools.pairwise"].contains "zip" &&
      (#[rawInt T, .bool false, .bool b, .ref TI, .ref TO] : Array Value)[0]? == some (rawInt T)) = true then _ else _) Q E s
  rw [if_pos (by simp)]
  refine wpAny_bind (wpAny_rule ?_)
  show wpAny _ _ (setField (.ref z) 0 .none) Q E s
  exact wpAny_setField_rec hz (by simp) fun h' hz' hs' => hQ h' hz' hs'
theorem pyIterB {b : Bool} {f0 : Value} {Q : Value → Shared → Prop} (hz : IsZipB b s.heap z TI TO f0) (h : Q (.ref z) s) :
    wpAny (model prog w) A (pyIter (.ref z)) Q E s := by
  have hT : s.TypeIs (.ref z) "zip" := ⟨_, hz, rfl⟩
  refine wpAny_pyIter_slot hT F.slot_zip_iter (wpAny_call_entry F.slot_zip_iter hT F.entry_zip_iter ?_ (F.args_zip_iter_1 _))
  show wpAny _ _ (ret (.ref z)) _ _ s
  exact wpAny_pure ⟨_, rfl, "zip", _, hT, F.slot_zip_next.lookup, h⟩
end
end Zs
set_option Elab.async false
set_option linter.all false
set_option maxRecDepth 100000
set_option maxHeartbeats 2000000
namespace Zs
open PySem
theorem typeCall_strict (a b c : Value) : checkTypeCall "zip" ⟨[a, b], [(Str.ofString "strict", c)]⟩ = pure () := by kernel_rfl
theorem newCall_strict (a b c : Value) :
    checkBuiltinCall "zip.__new__" ⟨[.type "zip", a, b], [(Str.ofString "strict", c)]⟩ = pure () := by kernel_rfl
theorem init_strict (obj a b c : Value) : argsOk "object.__init__" ⟨[obj, a, b], [(Str.ofString "strict", c)]⟩ := by
  unfold argsOk
  kernel_rfl
/-- the heap behind zip(v1, v2, strict = True) -/
abbrev sZ (h : Heap) (o1 o2 : Obj) : Heap := (gzO2 h o1 o2).push { cls := .type "zip", data := .fields #[.none, .bool false, .bool true, .ref ((h.push o1).push o2).objs.size, .ref (gzT2 h o1 o2).objs.size] }
theorem meets_strict {v1 v2 : Value} {o1 o2 : Obj} {H1 H2 : Heap → Prop} (B1 : Begins v1 o1 H1) (B2 : Begins v2 o2 H2) :
    Meets (Builtin.«zip.__new__» ⟨[.type "zip", v1, v2], [(Str.ofString "strict", .bool true)]⟩) (fun _ R s => (H1 s.heap ∧ H2 s.heap) ∧
      R (.ok (.ret (.ref (gzO2 s.heap o1 o2).objs.size))) { s with heap := sZ s.heap o1 o2 }) :=
  .of_wp fun prog w A R s h => by
    obtain ⟨hp, g, d, tk, os⟩ := s
    obtain ⟨⟨h1, h2⟩, h⟩ := h
    have hsub := sub_zip
    have q1 : ∀ {A' : Around} {E : Value → Shared → Prop} {Q : Value → Shared → Prop}, Q (.ref hp.objs.size) ⟨(hp.push o1), g, d, tk, os⟩ →
        wpAny (model prog w) A' (pyIter v1) Q E ⟨hp, g, d, tk, os⟩ :=
      fun q => B1.iter prog w _ _ ⟨hp, g, d, tk, os⟩ _ h1 q
    have q2 : ∀ {A' : Around} {E : Value → Shared → Prop} {Q : Value → Shared → Prop}, Q (.ref (hp.push o1).objs.size) ⟨((hp.push o1).push o2), g, d, tk, os⟩ →
        wpAny (model prog w) A' (pyIter v2) Q E ⟨(hp.push o1), g, d, tk, os⟩ :=
      fun q => B2.iter prog w _ _ ⟨(hp.push o1), g, d, tk, os⟩ _ (B2.keeps _ _ h2 fun b o' e => (Heap.get?_push_of_some _ e)) q
    have e2 : (Str.ofString "strict" != ("strict" : Str)) = false := by decide +kernel
    wp_walk using q1, q2
    exact ⟨_, rfl, h⟩
section
variable {prog : Program} {w : World} {A : Around} {E : Value → Shared → Prop} {s : Shared}
theorem strict_begins {v1 v2 : Value} {o1 o2 : Obj} {H1 H2 : Heap → Prop} {Q : Value → Shared → Prop}
    (B1 : Begins v1 o1 H1) (B2 : Begins v2 o2 H2) (h1 : H1 s.heap) (h2 : H2 s.heap)
    (h : ∀ h', IsZipB true h' (s.heap.objs.size + 4) (s.heap.objs.size + 2) (s.heap.objs.size + 3) .none →
      IsTupOf2 h' (s.heap.objs.size + 2) (.ref s.heap.objs.size) (.ref (s.heap.objs.size + 1)) →
      IsTupOf2 h' (s.heap.objs.size + 3) .none .none → h'.get? s.heap.objs.size = some o1 →
      h'.get? (s.heap.objs.size + 1) = some o2 → h'.objs.size = s.heap.objs.size + 5 →
      (∀ c o, s.heap.get? c = some o → h'.get? c = some o) → Q (.ref (s.heap.objs.size + 4)) { s with heap := h' }) :
    wpAny (model prog w) A (call (.type "zip") [v1, v2] [(Str.ofString "strict", .bool true)]) Q E s := by
  refine callType_newKw F.called_zip (by decide) (typeCall_strict _ _ _) (newCall_strict _ _ _)
    (fun obj => init_strict obj _ _ _) F.entry_zip_new (meets_strict B1 B2) ⟨⟨h1, h2⟩, ?_⟩
  have z1 : (s.heap.push o1).objs.size = s.heap.objs.size + 1 := by rw [Heap.size_push]
  have z2 : ((s.heap.push o1).push o2).objs.size = s.heap.objs.size + 2 := by rw [Heap.size_push, z1]
  have zT : (gzT2 s.heap o1 o2).objs.size = s.heap.objs.size + 3 := by rw [Heap.size_push, z2]
  have zO : (gzO2 s.heap o1 o2).objs.size = s.heap.objs.size + 4 := by rw [Heap.size_push, zT]
  have zZ : (sZ s.heap o1 o2).objs.size = s.heap.objs.size + 5 := by rw [Heap.size_push, zO]
  have gZ : IsZipB true (sZ s.heap o1 o2) (gzO2 s.heap o1 o2).objs.size ((s.heap.push o1).push o2).objs.size (gzT2 s.heap o1 o2).objs.size .none := Heap.get?_push_size _ rfl
  have gO : IsTupOf2 (sZ s.heap o1 o2) (gzT2 s.heap o1 o2).objs.size .none .none := Heap.get?_push_of_some _ (Heap.get?_push_size _ rfl)
  have gT : IsTupOf2 (sZ s.heap o1 o2) ((s.heap.push o1).push o2).objs.size (.ref s.heap.objs.size) (.ref (s.heap.push o1).objs.size) :=
    Heap.get?_push_of_some _ (Heap.get?_push_of_some _ (Heap.get?_push_size _ rfl))
  have g1 : (sZ s.heap o1 o2).get? s.heap.objs.size = some o1 :=
    Heap.get?_push_of_some _ (Heap.get?_push_of_some _ (Heap.get?_push_of_some _ (Heap.get?_push_of_some _ (Heap.get?_push_size _ B1.free))))
  have g2 : (sZ s.heap o1 o2).get? (s.heap.push o1).objs.size = some o2 :=
    Heap.get?_push_of_some _ (Heap.get?_push_of_some _ (Heap.get?_push_of_some _ (Heap.get?_push_size _ B2.free)))
  rw [zO, zT, z2] at gZ
  rw [zT] at gO
  rw [z2, z1] at gT
  rw [z1] at g2
  show _ ∧ _
  rw [zO]
  exact ⟨⟨_, gZ, rfl⟩, h _ gZ gT gO g1 g2 zZ fun c o e =>
    Heap.get?_push_of_some _ (Heap.get?_push_of_some _ (Heap.get?_push_of_some _ (Heap.get?_push_of_some _ (Heap.get?_push_of_some _ e))))⟩
end
section
variable {M : Model} {A : Around} {E : Value → Shared → Prop} {s : Shared} {env : Env}
theorem callWith_tyKw {pos : Pos} {T : String} {e : Expr} {rest : List Expr} {kws : List Keyword} {Q : Value → Shared → Prop}
    (h : wpAny M A (spliced (backTo pos (starEach (e :: rest) env))) (fun vs s₁ => wpAny M A (evalAll ((backToKw pos (keywordEach kws env)).map (·.2)))
      (fun kvs s₂ => wpAny M A (call (.type T) vs (((backToKw pos (keywordEach kws env)).filterMap (·.1)).zip kvs)) Q E s₂) E s₁) E s)
    (he : backTo pos (starEach (e :: rest) env) = (false, eval e env) :: backTo pos (starEach rest env) := by rfl)
    (hplain : (backTo pos (starEach (e :: rest) env)).any (·.1) = false := by rfl)
    (hall : (backToKw pos (keywordEach kws env)).all (·.1.isSome) = true := by rfl)
    (hkw : (backToKw pos (keywordEach kws env)).any (·.1.isNone) = false := by rfl) :
    wpAny M A (callWith pos (.type T) [] (backTo pos (starEach (e :: rest) env)) (backToKw pos (keywordEach kws env))) Q E s := by
  have h' : wpAny M A (evalArgs (.type T) true (backTo pos (starEach (e :: rest) env)) (backToKw pos (keywordEach kws env)))
      (fun a s₁ => wpAny M A (call (.type T) ([] ++ a.pos) a.kw) Q E s₁) E s := by
    rw [he] at h ⊢
    exact PyProof.Rows.evalArgs_kwB hall h
  unfold callWith
  refine wpAny_bind (wpAny_holding (wpAny_mono h' (fun a s₁ h₁ => wpAny_bind (wpAny_standAt ?_)) fun _ _ x => x))
  simp only [hplain, hkw, Bool.or_false]
  refine wpAny_bind (wpAny_pure ?_)
  exact wpAny_bind (wpAny_mono h₁ (fun r s₂ hr => wpAny_bind (wpAny_holding (wpAny_point (wpAny_pure hr)))) fun _ _ x => x)
end
end Zs
set_option Elab.async false
set_option linter.all false
set_option maxRecDepth 100000
set_option maxHeartbeats 2000000
/-! zip of two things, each a list, a tuple or a text, strict or not, over the hand layer -/
namespace Zs
open PySem PySem.Spec PyProof.Rows L2
inductive Src where
  | lst (a : Addr) | tup (a : Addr) | str (x : Str)
def Src.v : Src → V
  | .lst a => .ref a
  | .tup a => .ref a
  | .str x => .str x
/-- a text's signs, one by one -/
def signsV (x : Str) : List V := x.cps.toList.map fun c => V.str ⟨#[c]⟩
def Src.at (K : PySem.W.Frag) (H : Hp) (k : Src) (xs : List V) : Prop := match k with
  | .lst a => SqL K H a xs
  | .tup a => SqT K H a xs
  | .str x => xs = signsV x
def Src.st (it : Addr) (i : Nat) (h : Heap) (k : Src) : Prop := match k with
  | .lst a => h.IsListIter it a i
  | .tup a => h.IsTupleIter it a i
  | .str x => ∃ t, h.IsStrIter it (strIterType x) x t i
def Src.apart (z : Addr) (k : Src) : Prop := match k with
  | .lst a => a ≠ z
  | .tup a => a ≠ z
  | .str _ => True
def Src.below (n : Nat) (k : Src) : Prop := match k with
  | .lst a => a < n
  | .tup a => a < n
  | .str _ => True
theorem Src.below.apart {k : Src} {n z : Nat} (h : k.below n) (hz : n ≤ z) : k.apart z := by
  cases k with
  | lst a => exact Nat.ne_of_lt (Nat.lt_of_lt_of_le h hz)
  | tup a => exact Nat.ne_of_lt (Nat.lt_of_lt_of_le h hz)
  | str x => trivial
theorem Src.st_obj {k : Src} {it : Addr} {i : Nat} {h : Heap} (st : k.st it i h) : ∃ o, h.get? it = some o ∧ ∀ v, o.data ≠ .cell v := by
  cases k with
  | lst a => obtain ⟨o, e, _, d⟩ := st; exact ⟨o, e, fun v q => by rw [d] at q; cases q⟩
  | tup a => obtain ⟨o, e, _, d⟩ := st; exact ⟨o, e, fun v q => by rw [d] at q; cases q⟩
  | str x => obtain ⟨t, o, e, _, d⟩ := st; exact ⟨o, e, fun v q => by rw [d] at q; cases q⟩
theorem Src.st_keep {k : Src} {it : Addr} {i : Nat} {h h' : Heap} (st : k.st it i h) (kp : ∀ o, h.get? it = some o → h'.get? it = some o) : k.st it i h' := by
  cases k with
  | lst a => obtain ⟨o, e, r⟩ := st; exact ⟨o, kp o e, r⟩
  | tup a => obtain ⟨o, e, r⟩ := st; exact ⟨o, kp o e, r⟩
  | str x => obtain ⟨t, o, e, r⟩ := st; exact ⟨t, o, kp o e, r⟩
section
variable {X : Cx} {pins : List (Addr × Obj)} {σ : L2.St} {H : Hp} {s : Shared}
theorem Src.at_inj (I : Inv X pins σ H s) {k : Src} {xs ys : List V} (h : k.at X.K H xs) (h' : k.at X.K H ys) : xs = ys := by
  cases k with
  | lst a => exact I.list_inj h h'
  | tup a => exact I.tuple_inj h h'
  | str x => exact Eq.trans h (Eq.symm h')
theorem Src.draws {A : Around} (I : Inv X pins σ H s) (hh : A.handled = none) {k : Src} {xs : List V} (hq : k.at X.K H xs) {it : Addr} (ha : k.apart it) {i : Nat} (st : k.st it i s.heap) :
    ∃ (fp : List Addr) (P : Nat → Value → Prop) (St : Nat → Heap → Prop), Draws X.prog X.w A it fp xs.length P St ∧ (∀ j v, P j v → ∃ x, xs[j]? = some x ∧ RelV x v) ∧
      St i s.heap ∧ (∀ j h, St j h → k.st it j h) ∧ it ∈ fp ∧ ∀ b ∈ fp, b = it ∨ ¬ k.apart b := by
  cases k with
  | lst a =>
    obtain ⟨its, rv, p, _⟩ := I.list hq
    have hl : its.toArray.size = xs.length := by rw [List.size_toArray]; exact rv.length.symm
    refine ⟨[it, a], fun j v => its.toArray[j]? = some v, fun j h => h.IsListIter it a j ∧ h.IsList a its.toArray, ?_, fun j v e => ?_, ⟨st, p.isList⟩, fun j h z => z.1, by simp, fun b hb => ?_⟩
    · rw [← hl]
      exact Draws.list hh it a ha its.toArray
    · have e' : its[j]? = some v := by simpa using e
      have hj : j < xs.length := by
        rw [rv.length]
        exact (List.getElem?_eq_some_iff.mp e').1
      obtain ⟨u, hu, ru⟩ := rv.get (List.getElem?_eq_getElem hj)
      rw [e'] at hu
      cases hu
      exact ⟨_, List.getElem?_eq_getElem hj, ru⟩
    · have e : b = it ∨ b = a := by simpa using hb
      rcases e with e | e
      · exact .inl e
      · exact .inr fun q => q e.symm
  | tup a =>
    obtain ⟨its, rv, p, _⟩ := I.tuple hq
    have hl : its.toArray.size = xs.length := by rw [List.size_toArray]; exact rv.length.symm
    refine ⟨[it, a], fun j v => its.toArray[j]? = some v, fun j h => h.IsTupleIter it a j ∧ h.IsTuple a its.toArray, ?_, fun j v e => ?_, ⟨st, p⟩, fun j h z => z.1, by simp, fun b hb => ?_⟩
    · rw [← hl]
      exact Draws.tuple hh it a ha its.toArray
    · have e' : its[j]? = some v := by simpa using e
      have hj : j < xs.length := by
        rw [rv.length]
        exact (List.getElem?_eq_some_iff.mp e').1
      obtain ⟨u, hu, ru⟩ := rv.get (List.getElem?_eq_getElem hj)
      rw [e'] at hu
      cases hu
      exact ⟨_, List.getElem?_eq_getElem hj, ru⟩
    · have e : b = it ∨ b = a := by simpa using hb
      rcases e with e | e
      · exact .inl e
      · exact .inr fun q => q e.symm
  | str x =>
    have hq : xs = signsV x := hq
    obtain ⟨t, st⟩ := st
    have hl : x.cps.size = xs.length := by rw [hq]; unfold signsV; rw [List.length_map, Array.length_toList]
    refine ⟨[it], fun j v => ∃ c u, x.cps[j]? = some c ∧ v = .str ⟨#[c]⟩ u, _, ?_, ?_, st, fun j h z => ⟨t, z⟩, by simp, fun b hb => .inl (by simpa using hb)⟩
    · rw [← hl]
      exact Draws.text hh it x t
    · rintro j v ⟨c, u, hc, rfl⟩
      refine ⟨.str ⟨#[c]⟩, ?_, u, rfl⟩
      rw [hq]
      unfold signsV
      rw [List.getElem?_map, Array.getElem?_toList, hc]
      rfl
theorem Src.begins (I : Inv X pins σ H s) {k : Src} {xs : List V} (hq : k.at X.K H xs) {u : Value} (r : RelV k.v u) :
    ∃ (o : Obj) (HH : Heap → Prop), Begins u o HH ∧ HH s.heap ∧ (∀ h it, h.get? it = some o → k.st it 0 h) ∧ k.below s.heap.objs.size := by
  cases k with
  | lst a =>
    obtain ⟨its, rv, p, _⟩ := I.list hq
    have e : u = .ref a := r
    subst e
    exact ⟨_, _, begins_list a its.toArray, p.isList, fun h it e => ⟨_, e, rfl, rfl⟩, p.lt⟩
  | tup a =>
    obtain ⟨its, rv, p, _⟩ := I.tuple hq
    have e : u = .ref a := r
    subst e
    exact ⟨_, _, begins_tuple a its.toArray, p, fun h it e => ⟨_, e, rfl, rfl⟩, let ⟨_, e, _⟩ := p; Heap.lt_size e⟩
  | str x =>
    obtain ⟨t, rfl⟩ := r
    exact ⟨_, _, begins_text x t, trivial, fun h it e => ⟨t, _, e, rfl, rfl⟩, trivial⟩
end
structure Sep (z TI TO i1 i2 : Addr) (k1 k2 : Src) : Prop where
  TIz : TI ≠ z
  TOz : TO ≠ z
  TITO : TI ≠ TO
  TIi1 : TI ≠ i1
  TIi2 : TI ≠ i2
  zi1 : z ≠ i1
  zi2 : z ≠ i2
  Ti1 : TO ≠ i1
  Ti2 : TO ≠ i2
  i12 : i1 ≠ i2
  a1z : k1.apart z
  a1T : k1.apart TO
  a11 : k1.apart i1
  a12 : k1.apart i2
  a2z : k2.apart z
  a2T : k2.apart TO
  a21 : k2.apart i1
  a22 : k2.apart i2
theorem nne {n a b : Nat} (h : a ≠ b) : n + a ≠ n + b := by omega
theorem nne0 {n b : Nat} (h : b ≠ 0) : n ≠ n + b := by omega
theorem sep_new (n : Nat) {k1 k2 : Src} (b1 : k1.below n) (b2 : k2.below n) : Sep (n + 4) (n + 2) (n + 3) n (n + 1) k1 k2 :=
  ⟨nne (by decide), nne (by decide), nne (by decide), (nne0 (by decide)).symm, nne (by decide), (nne0 (by decide)).symm, nne (by decide), (nne0 (by decide)).symm, nne (by decide), nne0 (by decide),
    b1.apart (Nat.le_add_right _ _), b1.apart (Nat.le_add_right _ _), b1.apart (Nat.le_refl _), b1.apart (Nat.le_add_right _ _),
    b2.apart (Nat.le_add_right _ _), b2.apart (Nat.le_add_right _ _), b2.apart (Nat.le_refl _), b2.apart (Nat.le_add_right _ _)⟩
theorem Sep.zs {z TI TO i1 i2 : Addr} {k1 k2 : Src} {fp1 fp2 : List Addr} (D : Sep z TI TO i1 i2 k1 k2) (m1 : i1 ∈ fp1) (m2 : i2 ∈ fp2)
    (f1 : ∀ b ∈ fp1, b = i1 ∨ ¬ k1.apart b) (f2 : ∀ b ∈ fp2, b = i2 ∨ ¬ k2.apart b) : ZipSep2 z TI TO i1 i2 fp1 fp2 where
  TIz := D.TIz
  TOz := D.TOz
  TITO := D.TITO
  TIi1 := D.TIi1
  mem1 := m1
  zf1 := fun h => (f1 _ h).elim D.zi1 fun q => q D.a1z
  Tf1 := fun h => (f1 _ h).elim D.Ti1 fun q => q D.a1T
  TIi2 := D.TIi2
  mem2 := m2
  zf2 := fun h => (f2 _ h).elim D.zi2 fun q => q D.a2z
  Tf2 := fun h => (f2 _ h).elim D.Ti2 fun q => q D.a2T
  sep1_2 := fun h => (f2 _ h).elim D.i12 fun q => q D.a21
  sep2_1 := fun h => (f1 _ h).elim D.i12.symm fun q => q D.a12
/-- what zip of k1 and k2 yields: new pairs -/
def ItZ (b : Bool) (K : PySem.W.Frag) (k1 k2 : Src) : It :=
  ⟨fun i H => ∃ (xs ys : List V) (x y : V), k1.at K H xs ∧ k2.at K H ys ∧ xs[i]? = some x ∧ ys[i]? = some y,
    fun i H v H' => ∃ T x y, v = .ref T ∧ H T = none ∧ H' = upd H T (.tup [x, y]) ∧ (∀ xs, k1.at K H xs → xs[i]? = some x) ∧ ∀ ys, k2.at K H ys → ys[i]? = some y,
    fun i H => ∃ xs ys : List V, k1.at K H xs ∧ k2.at K H ys ∧ i ≤ xs.length ∧ i ≤ ys.length ∧ if b = true then i = xs.length ∧ i = ys.length else i = xs.length ∨ i = ys.length⟩
theorem turn_zipB {b : Bool} {P : Program} {w : World} {K : PySem.W.Frag} {elts : List Expr} {kk : Nat} {tpos : Pos} {k1 k2 : Src} {z TI TO i1 i2 : Addr} (D : Sep z TI TO i1 i2 k1 k2) :
    Turn P w K (.Tuple elts kk tpos) (ItZ b K k1 k2) [z, TI, TO, i1, i2] z
      (fun i h => IsZipB b h z TI TO .none ∧ IsTupOf2 h TI (.ref i1) (.ref i2) ∧ (∃ x y, IsTupOf2 h TO x y) ∧ k1.st i1 i h ∧ k2.st i2 i h) where
  mem := by simp
  obj := fun i h st c hc => by
    obtain ⟨hz, hTI, ⟨x, y, hTO⟩, s1, s2⟩ := st
    have e' : c = z ∨ c = TI ∨ c = TO ∨ c = i1 ∨ c = i2 := by simpa using hc
    rcases e' with q | q | q | q | q
    · rw [q]; exact ⟨_, hz, fun v q => nomatch q⟩
    · rw [q]; exact ⟨_, hTI, fun v q => nomatch q⟩
    · rw [q]; exact ⟨_, hTO, fun v q => nomatch q⟩
    · rw [q]; exact Src.st_obj s1
    · rw [q]; exact Src.st_obj s2
  keep := fun i h h' st k => by
    obtain ⟨hz, hTI, ⟨x, y, hTO⟩, s1, s2⟩ := st
    exact ⟨k z (by simp) _ hz, k TI (by simp) _ hTI, ⟨x, y, k TO (by simp) _ hTO⟩, Src.st_keep s1 (k i1 (by simp)), Src.st_keep s2 (k i2 (by simp))⟩
  item := by
    intro X hP hw hK hc i pins s σ H E I hf st hg
    subst hP hw hK
    obtain ⟨hz, hTI, ⟨x0, y0, hTO⟩, s1, s2⟩ := st
    obtain ⟨xs, ys, x, y, hqx, hqy, hx, hy⟩ := hg
    have hh : X.A.in1.handled = none := I.ok.hd hc
    obtain ⟨fp1, P1, St1, D1, r1, a1, b1, m1, f1⟩ := Src.draws (A := X.A.in1) I hh hqx D.a11 s1
    obtain ⟨fp2, P2, St2, D2, r2, a2, b2, m2, f2⟩ := Src.draws (A := X.A.in1) I hh hqy D.a22 s2
    have hzl : z < s.heap.objs.size := Heap.lt_size hz
    refine pyNextB_item (D.zs m1 m2 f1 f2) D1 D2 hz hTI hTO a1 a2 (List.getElem?_eq_some_iff.mp hx).1 (List.getElem?_eq_some_iff.mp hy).1 fun u u2 h' tk p1 p2 z' TO' h1' h2' hT hsz hk => ?_
    obtain ⟨x', hx', ru⟩ := r1 i u p1
    obtain ⟨y', hy', ru2⟩ := r2 i u2 p2
    rw [hx] at hx'
    cases hx'
    rw [hy] at hy'
    cases hy'
    refine ⟨_, rfl, letGoB (s := { s with heap := h', toks := tk }) z' fun h'' z'' sb => ?_⟩
    have hT2 : h''.get? s.heap.objs.size = some { cls := .type "tuple", data := .seq #[u, u2] } := (sb.2 _ (Nat.ne_of_gt hzl)).trans hT
    have new : ObjOk X.prog X.w (upd H s.heap.objs.size (.tup [x, y])) h'' s.heap.objs.size (.tup [x, y]) :=
      ⟨by show 2 ≤ sizeLine; decide, [u, u2], .cons ru (.cons ru2 .nil), ⟨_, hT2, rfl, _, rfl⟩⟩
    have I1 : Inv X pins σ (upd H s.heap.objs.size (.tup [x, y])) { s with heap := h'', toks := tk } :=
      I.turnedNew (t' := tk) (ch := [z, TI, TO, i1, i2]) (fun c o hb q => (sb.2 c (fun q' => hb (by simp [q']))).trans
        (hk c o (fun q' => hb (by simp [q'])) (fun q' => hb (by simp [q'])) (fun q' => hb (by simp [q'])) (fun q' => hb (by simp [q'])) q)) hf (Nat.le_refl _) new
    refine ⟨.ref s.heap.objs.size, _, I1, rfl, ⟨_, x, y, rfl, I.hok.fresh (Nat.le_refl _), rfl, fun l hl => by rw [Src.at_inj I hl hqx]; exact hx,
      fun l hl => by rw [Src.at_inj I hl hqy]; exact hy⟩, ⟨z'', ?_, ⟨u, u2, ?_⟩, ?_, ?_⟩, fun c hcm => ?_⟩
    · exact (sb.2 _ D.TIz).trans (hk _ _ D.TIz D.TITO D.TIi1 D.TIi2 hTI)
    · exact (sb.2 _ D.TOz).trans TO'
    · exact Src.st_keep (b1 _ _ h1') fun o q => (sb.2 _ D.zi1.symm).trans q
    · exact Src.st_keep (b2 _ _ h2') fun o q => (sb.2 _ D.zi2.symm).trans q
    · have hlt : c < s.heap.objs.size := by
        have e' : c = z ∨ c = TI ∨ c = TO ∨ c = i1 ∨ c = i2 := by simpa using hcm
        rcases e' with q | q | q | q | q
        · rw [q]; exact hzl
        · rw [q]; exact Heap.lt_size hTI
        · rw [q]; exact Heap.lt_size hTO
        · rw [q]; obtain ⟨_, e1, _⟩ := Src.st_obj s1; exact Heap.lt_size e1
        · rw [q]; obtain ⟨_, e2, _⟩ := Src.st_obj s2; exact Heap.lt_size e2
      rw [upd_ne (Nat.ne_of_lt hlt)]
      exact (hf c hcm).1
  done := by
    intro X hP hw hK hc i pins s σ H E I hf st hg
    subst hP hw hK
    obtain ⟨hz, hTI, ⟨x0, y0, hTO⟩, s1, s2⟩ := st
    obtain ⟨xs, ys, hqx, hqy, l1, l2, hend⟩ := hg
    have hh : X.A.in1.handled = none := I.ok.hd hc
    obtain ⟨fp1, P1, St1, D1, r1, a1, b1, m1, f1⟩ := Src.draws (A := X.A.in1) I hh hqx D.a11 s1
    obtain ⟨fp2, P2, St2, D2, r2, a2, b2, m2, f2⟩ := Src.draws (A := X.A.in1) I hh hqy D.a22 s2
    exact pyNextB_end (I.ok.hd hc) (D.zs m1 m2 f1 f2) D1 D2 hz hTI hTO a1 a2 l1 l2 hend fun h' tk hk => ⟨rfl, I.turnedL (t' := tk) (ch := [z, TI, TO, i1, i2]) (fun c o hb q =>
      hk c o (fun q' => hb (by simp [q'])) (fun q' => hb (by simp [q'])) (fun q' => hb (by simp [q'])) (fun q' => hb (by simp [q'])) q) hf⟩
  self := fun A i s Q E st h => pyIterB st.1 h
def iZipB (b : Bool) (K : PySem.W.Frag) (ta : TA) : TI := fun σ H R => ta σ H fun vs H1 =>
  ∃ (k1 k2 : Src) (xs ys : List V), vs = [k1.v, k2.v] ∧ k1.at K H1 xs ∧ k2.at K H1 ys ∧ R (ItZ b K k1 k2) H1
section
variable {X : Cx} {pins : List (Addr × Obj)} {σ : L2.St} {H1 : Hp} {s1 : Shared} {elts : List Expr} {kk : Nat} {tpos : Pos}
theorem fresh5 (I1 : Inv X pins σ H1 s1) : ∀ c, c ∈ [s1.heap.objs.size + 4, s1.heap.objs.size + 2, s1.heap.objs.size + 3, s1.heap.objs.size, s1.heap.objs.size + 1] → FpOk X pins H1 c := fun c hcm => by
  have e' : c = s1.heap.objs.size + 4 ∨ c = s1.heap.objs.size + 2 ∨ c = s1.heap.objs.size + 3 ∨ c = s1.heap.objs.size ∨ c = s1.heap.objs.size + 1 := by simpa using hcm
  have hle : s1.heap.objs.size ≤ c := by
    rcases e' with z | z | z | z | z
    · rw [z]; exact Nat.le_add_right _ _
    · rw [z]; exact Nat.le_add_right _ _
    · rw [z]; exact Nat.le_add_right _ _
    · rw [z]; exact Nat.le_refl _
    · rw [z]; exact Nat.le_add_right _ _
  exact I1.fpOk hle (I1.hok.fresh hle)
theorem zipB_made {b : Bool} {R : It → Hp → Prop} {k1 k2 : Src} {o1 o2 : Obj} {h' : Heap} (I1 : Inv X pins σ H1 s1) (l1 : k1.below s1.heap.objs.size) (l2 : k2.below s1.heap.objs.size)
    (t1 : ∀ h it, h.get? it = some o1 → k1.st it 0 h) (t2 : ∀ h it, h.get? it = some o2 → k2.st it 0 h)
    (hz : IsZipB b h' (s1.heap.objs.size + 4) (s1.heap.objs.size + 2) (s1.heap.objs.size + 3) .none) (hTI : IsTupOf2 h' (s1.heap.objs.size + 2) (.ref s1.heap.objs.size) (.ref (s1.heap.objs.size + 1)))
    (hTO : IsTupOf2 h' (s1.heap.objs.size + 3) .none .none) (g1 : h'.get? s1.heap.objs.size = some o1) (g2 : h'.get? (s1.heap.objs.size + 1) = some o2)
    (hk : ∀ c o, s1.heap.get? c = some o → h'.get? c = some o) (q : R (ItZ b X.K k1 k2) H1) {E : Value → Shared → Prop} :
    wpAny (model X.prog X.w) X.A (pyIter (.ref (s1.heap.objs.size + 4))) (PIE X pins σ (.Tuple elts kk tpos) R) E { s1 with heap := h' } := by
  refine pyIterB hz ?_
  have I2 : Inv X pins σ H1 { s1 with heap := h' } := I1.kept (t' := s1.toks) hk
  exact ⟨s1.heap.objs.size + 4, [s1.heap.objs.size + 4, s1.heap.objs.size + 2, s1.heap.objs.size + 3, s1.heap.objs.size, s1.heap.objs.size + 1], _, _, H1, rfl, I2,
    turn_zipB (sep_new s1.heap.objs.size l1 l2), ⟨hz, hTI, ⟨_, _, hTO⟩, t1 _ _ g1, t2 _ _ g2⟩, fresh5 I1, q⟩
end
section
variable {X : Cx} {e e2 : Expr} {ta : TA} {p pos tpos kp q : Pos} {elts : List Expr} {kk : Nat}
/-- zip(a, b) -/
theorem pi_zip2 (hg : Gl X "zip") (hm : X.mg "zip" = none) (ha : PA X [e, e2] ta)
    (hs : starEach [e, e2] X.env = (false, eval e X.env) :: starEach [e2] X.env := by rfl) (hpl : (backTo pos (starEach [e2] X.env)).any (·.1) = false := by rfl) :
    PI X (.Tuple elts kk tpos) (.Call (.Name "zip" p) [e, e2] [] pos) (iZipB false X.K ta) := by
  refine ⟨fun pins s σ H R I h => ?_⟩
  refine Call_ (ld_blt I hg hm PyProof.Rows.boot_zip (PyProof.Rows.callWith_type1 (thn (ha.run pos pins s σ H _ I h) fun us s1 ⟨vs, H1, I1, r1, q1⟩ => ?_) hs hpl))
  obtain ⟨k1, k2, xs, ys, ex, hqx, hqy, q⟩ := q1
  subst ex
  cases r1 with
  | cons r rr =>
    cases rr with
    | cons r' rr =>
      cases rr
      obtain ⟨o1, HH1, B1, h1, t1, l1⟩ := Src.begins I1 hqx r
      obtain ⟨o2, HH2, B2, h2, t2, l2⟩ := Src.begins I1 hqy r'
      exact zip_begins2 B1 B2 h1 h2 fun h' hz hTI hTO g1 g2 hsz hk => zipB_made I1 l1 l2 t1 t2 hz hTI hTO g1 g2 hk q
/-- zip(a, b, strict=True) -/
theorem pi_zipS {ck : Nat} {nm : Str} (hnm : nm = Str.ofString "strict") (hg : Gl X "zip") (hm : X.mg "zip" = none) (ha : PA X [e, e2] ta)
    (hs : backTo pos (starEach [e, e2] X.env) = (false, eval e X.env) :: backTo pos (starEach [e2] X.env) := by rfl) (hpl : (backTo pos (starEach [e, e2] X.env)).any (·.1) = false := by rfl) :
    PI X (.Tuple elts kk tpos) (.Call (.Name "zip" p) [e, e2] [⟨some nm, .Constant (.bool true) ck q, kp⟩] pos) (iZipB true X.K ta) := by
  subst hnm
  refine ⟨fun pins s σ H R I h => ?_⟩
  refine wpAny_Call_Name_kw (ld_blt I hg hm PyProof.Rows.boot_zip ?_)
  refine callWith_tyKw (thn (ha.run pos pins s σ H _ I h) fun us s1 ⟨vs, H1, I1, r1, q1⟩ => ?_) hs hpl
  obtain ⟨k1, k2, xs, ys, ex, hqx, hqy, q⟩ := q1
  subst ex
  refine PyProof.Rows.kws_cons (thn ((pe_bl (X := X) (b := true)).run pins s1 σ H1 (fun v H' => v = .bl true ∧ H' = H1) I1 ⟨rfl, rfl⟩) fun u s2 ⟨v, H2, I2, rv, e1, e2⟩ => PyProof.Rows.kws_nil ?_)
  subst e1
  subst e2
  have eu : u = .bool true := rv
  subst eu
  cases r1 with
  | cons r rr =>
    cases rr with
    | cons r' rr =>
      cases rr
      obtain ⟨o1, HH1, B1, h1, t1, l1⟩ := Src.begins I2 hqx r
      obtain ⟨o2, HH2, B2, h2, t2, l2⟩ := Src.begins I2 hqy r'
      exact strict_begins B1 B2 h1 h2 fun h' hz hTI hTO g1 g2 hsz hk => zipB_made I2 l1 l2 t1 t2 hz hTI hTO g1 g2 hk q
end
end Zs
set_option Elab.async false
set_option linter.all false
set_option maxRecDepth 100000
set_option maxHeartbeats 2000000
namespace Zs
open PySem PySem.Spec PyProof.Rows L2
theorem same_tup {K : PySem.W.Frag} {H H' : Hp} {a : Addr} {xs : List V} (e : Same H H') (h : SqT K H a xs) : SqT K H' a xs := by
  rcases h with (h | ⟨o, h⟩) | h
  · exact .inl (.inl (e _ _ h))
  · exact .inl (.inr ⟨o, e _ _ h⟩)
  · exact .inr h
theorem Src.same {K : PySem.W.Frag} {H H' : Hp} {k : Src} {xs : List V} (e : Same H H') (h : k.at K H xs) : k.at K H' xs := by
  cases k with
  | lst a => exact e.seq h
  | tup a => exact same_tup e h
  | str x => exact h
/-- a loop over zip of two things of one length -/
theorem for_zipB {b : Bool} {K : PySem.W.Frag} {k1 k2 : Src} {xs ys : List V} {g : TG} {tb : TS} {D : Ends} {σ : L2.St} {H : Hp} (hl : xs.length = ys.length)
    (Pv : Nat → L2.St → Hp → Prop) (h0 : Pv 0 σ H) (hq : ∀ i σ H, Pv i σ H → k1.at K H xs ∧ k2.at K H ys)
    (hs : ∀ (i : Nat) (x y : V) (T : Addr) (σ : L2.St) (H : Hp), xs[i]? = some x → ys[i]? = some y → Pv i σ H → H T = none →
      g (.ref T) σ (upd H T (.tup [x, y])) fun σ2 H2 => tb { D with nx := Pv (i + 1), ct := Pv (i + 1), bk := D.nx } σ2 H2)
    (hd : ∀ σ H, Pv xs.length σ H → D.nx σ H) :
    ∃ W : Nat → Nat → L2.St → Hp → Prop, (∃ m, W 0 m σ H) ∧ ∀ i m σ H, W i m σ H →
      ((ItZ b K k1 k2).stop i H ∧ D.nx σ H) ∨ ((ItZ b K k1 k2).go i H ∧ ∃ N : L2.St → Hp → Prop, (∀ σ' H', N σ' H' → ∃ m', m' < m ∧ W (i + 1) m' σ' H') ∧
        ∀ v H', (ItZ b K k1 k2).yld i H v H' → g v σ H' fun σ2 H2 => tb { D with nx := N, ct := N, bk := D.nx } σ2 H2) := by
  refine ⟨fun i m σ H => m = xs.length - i ∧ i ≤ xs.length ∧ Pv i σ H, ⟨xs.length, rfl, Nat.zero_le _, h0⟩, ?_⟩
  rintro i m σ H ⟨rfl, hi, p⟩
  obtain ⟨qx, qy⟩ := hq i σ H p
  by_cases hlt : i < xs.length
  · have hx : xs[i]? = some xs[i] := List.getElem?_eq_getElem hlt
    have hlt2 : i < ys.length := by omega
    have hy : ys[i]? = some ys[i] := List.getElem?_eq_getElem hlt2
    refine .inr ⟨⟨xs, ys, _, _, qx, qy, hx, hy⟩, Pv (i + 1), fun σ' H' p' => ⟨xs.length - (i + 1), by omega, rfl, hlt, p'⟩, fun v H' y => ?_⟩
    obtain ⟨T, x', y', rfl, hT, rfl, f1, f2⟩ := y
    exact hs i x' y' T σ H (f1 xs qx) (f2 ys qy) p hT
  · have e : i = xs.length := by omega
    subst e
    refine .inl ⟨⟨xs, ys, qx, qy, Nat.le_refl _, by omega, ?_⟩, hd σ H p⟩
    cases b with
    | true => exact ⟨rfl, hl⟩
    | false => exact .inl rfl
end Zs
set_option Elab.async false
set_option linter.all false
set_option maxRecDepth 100000
set_option maxHeartbeats 4000000
/-! the law's feed of digits: a dict of cells, at, left -/
namespace Fd
open PySem PySem.Spec PyProof.Rows L2
def feedK (l : Addr) (a f : Int) : List (Key × V) := [(Sum.inr ("cells" : Str), .ref l), (Sum.inr ("at" : Str), .int a), (Sum.inr ("left" : Str), .int f)]
theorem n1 : ¬ ((Sum.inr ("cells" : Str) : Key) = Sum.inr ("at" : Str)) := fun e => absurd (Sum.inr.inj e) (by decide +kernel)
theorem n2 : ¬ ((Sum.inr ("cells" : Str) : Key) = Sum.inr ("left" : Str)) := fun e => absurd (Sum.inr.inj e) (by decide +kernel)
theorem n3 : ¬ ((Sum.inr ("at" : Str) : Key) = Sum.inr ("left" : Str)) := fun e => absurd (Sum.inr.inj e) (by decide +kernel)
variable {l : Addr} {a f : Int}
theorem get_cells : valV (feedK l a f) (Sum.inr ("cells" : Str)) = some (.ref l) := valV_pos rfl
theorem get_at : valV (feedK l a f) (Sum.inr ("at" : Str)) = some (.int a) := by
  unfold feedK
  rw [valV_neg n1, valV_pos rfl]
theorem get_left : valV (feedK l a f) (Sum.inr ("left" : Str)) = some (.int f) := by
  unfold feedK
  rw [valV_neg n2, valV_neg n3, valV_pos rfl]
theorem put_at (b : Int) : putK (feedK l a f) (Sum.inr ("at" : Str)) (.int b) = feedK l b f := by
  unfold putK
  rw [valV_any, get_at, if_pos (show (some (V.int a)).isSome = true from rfl)]
  unfold feedK
  simp only [List.map_cons, List.map_nil]
  rw [if_neg n1, if_pos trivial, if_neg (fun e => n3 e.symm)]
theorem put_left (b : Int) : putK (feedK l a f) (Sum.inr ("left" : Str)) (.int b) = feedK l a b := by
  unfold putK
  rw [valV_any, get_left, if_pos (show (some (V.int f)).isSome = true from rfl)]
  unfold feedK
  simp only [List.map_cons, List.map_nil]
  rw [if_neg n2, if_neg n3, if_pos trivial]
/-- the feed stands at d, its cells at l; at most n cells were gone through -/
structure FeedAt (H : Hp) (d l : Addr) (cs : List Int) (n : Nat) : Prop where
  dc : ∃ (a : Nat) (f : Int), a ≤ n ∧ H d = some (.dK (feedK l a f))
  ls : H l = some (.lst (cs.map V.int))
  len : cs.length ≤ 63
/-- all but d is as it was -/
def Keep (d : Addr) (H H' : Hp) : Prop := ∀ b o, H b = some o → b ≠ d → H' b = some o
theorem Keep.refl (d : Addr) (H : Hp) : Keep d H H := fun _ _ h _ => h
theorem Keep.trans {d : Addr} {H H1 H2 : Hp} (x : Keep d H H1) (y : Keep d H1 H2) : Keep d H H2 := fun b o h n => y b o (x b o h n) n
theorem Keep.of_same {d : Addr} {H H' : Hp} (x : Same H H') : Keep d H H' := fun b o h _ => x b o h
theorem keep_upd {d : Addr} {H : Hp} {o : HO} : Keep d H (upd H d o) := fun b u h n => by
  rw [upd_ne n]
  exact h
theorem same_new {H : Hp} {p : Addr} {o : HO} (h : H p = none) : Same H (upd H p o) := fun b x e => by
  rw [upd_ne (ne_of_none e h)]
  exact e
theorem keep_new {d : Addr} {H : Hp} {p : Addr} {o : HO} (h : H p = none) : Keep d H (upd H p o) := .of_same (same_new h)
section
variable {H H' : Hp} {d : Addr} {cs : List Int} {n m : Nat} {K : PySem.W.Frag}
theorem FeedAt.mono (F : FeedAt H d l cs n) (h : n ≤ m) : FeedAt H d l cs m := by
  obtain ⟨⟨a, f, ha, e⟩, q, z⟩ := F
  exact ⟨⟨a, f, Nat.le_trans ha h, e⟩, q, z⟩
theorem FeedAt.same (F : FeedAt H d l cs n) (s : Same H H') : FeedAt H' d l cs n := by
  obtain ⟨⟨a, f, ha, e⟩, q, z⟩ := F
  exact ⟨⟨a, f, ha, s _ _ e⟩, s _ _ q, z⟩
theorem FeedAt.seq (F : FeedAt H d l cs n) (k : Keep d H H') {b : Addr} {xs : List V} (h : SqL K H b xs) : SqL K H' b xs := by
  obtain ⟨⟨a, f, ha, e⟩, q, z⟩ := F
  rcases h with (h | ⟨o, h⟩) | h
  · exact .inl (.inl (k _ _ h (ne_of h e (by intro z; cases z))))
  · exact .inl (.inr ⟨o, k _ _ h (ne_of h e (by intro z; cases z))⟩)
  · exact .inr h
theorem FeedAt.lst (F : FeedAt H d l cs n) (k : Keep d H H') {b : Addr} {xs : List V} (h : H b = some (.lst xs)) : H' b = some (.lst xs) := by
  obtain ⟨⟨a, f, ha, e⟩, q, z⟩ := F
  exact k _ _ h (ne_of h e (by intro z; cases z))
theorem FeedAt.ne (F : FeedAt H d l cs n) : l ≠ d := by
  obtain ⟨⟨a, f, ha, e⟩, q, z⟩ := F
  exact ne_of q e (by intro z; cases z)
theorem FeedAt.new (F : FeedAt H d l cs n) {b : Addr} (h : H b = none) : d ≠ b ∧ l ≠ b := by
  obtain ⟨⟨a, f, ha, e⟩, q, z⟩ := F
  exact ⟨ne_of_none e h, ne_of_none q h⟩
end
theorem dg_cells {H : Hp} {d : Addr} (e : H d = some (.dK (feedK l a f))) : DGet H d (.str ("cells" : Str)) (some (.ref l)) := by
  have := DGet.k (k := Sum.inr ("cells" : Str)) e
  rwa [get_cells] at this
theorem dg_at {H : Hp} {d : Addr} (e : H d = some (.dK (feedK l a f))) : DGet H d (.str ("at" : Str)) (some (.int a)) := by
  have := DGet.k (k := Sum.inr ("at" : Str)) e
  rwa [get_at] at this
theorem dg_left {H : Hp} {d : Addr} (e : H d = some (.dK (feedK l a f))) : DGet H d (.str ("left" : Str)) (some (.int f)) := by
  have := DGet.k (k := Sum.inr ("left" : Str)) e
  rwa [get_left] at this
theorem dp_at {H : Hp} {d : Addr} {b : Int} (e : H d = some (.dK (feedK l a f))) : DPut H d (.str ("at" : Str)) (.int b) (upd H d (.dK (feedK l b f))) := by
  have := DPut.k (k := Sum.inr ("at" : Str)) (v := .int b) e (show 3 < sizeLine by decide)
  rwa [put_at] at this
theorem dp_left {H : Hp} {d : Addr} {b : Int} (e : H d = some (.dK (feedK l a f))) : DPut H d (.str ("left" : Str)) (.int b) (upd H d (.dK (feedK l a b))) := by
  have := DPut.k (k := Sum.inr ("left" : Str)) (v := .int b) e (show 3 < sizeLine by decide)
  rwa [put_left] at this
/-- lists of ints as data -/
theorem dp_ints {K : PySem.W.Frag} {H : Hp} : ∀ ns : List Int, DpAll K H (ns.map V.int) (ns.map PyData.int)
  | [] => .nil
  | n :: ns => .cons (.int n) (dp_ints ns)
theorem eqv_nil (ns : List Int) : PyData.eqv (.list (ns.map PyData.int)) (.list []) = ns.isEmpty := by
  cases ns with
  | nil => simp [PyData.eqv, PyData.eqvAll]
  | cons n ns => simp [PyData.eqv, PyData.eqvAll]
/-- spDraw: a digit below m -/
def spDraw : Sp := fun vs H Q _ => ∃ (d l : Addr) (cs : List Int) (n : Nat) (m : Int), vs = [.ref d, .int m] ∧ FeedAt H d l cs n ∧ n ≤ 1000000 ∧ 0 < m ∧ m < 2 ^ 64 ∧
  ∀ (r : Nat) (H' : Hp), (r : Int) < m → FeedAt H' d l cs (n + 1) → Keep d H H' → Q (.int r) H'
/-- spPick: one of the items -/
def spPick (K : PySem.W.Frag) : Sp := fun vs H Q _ => ∃ (d l p : Addr) (cs : List Int) (n : Nat) (xs : List V), vs = [.ref d, .ref p] ∧ FeedAt H d l cs n ∧ n ≤ 1000000 ∧ SqL K H p xs ∧ 0 < xs.length ∧ xs.length < 1000 ∧
  ∀ (x : V) (H' : Hp), x ∈ xs → FeedAt H' d l cs (n + 1) → Keep d H H' → Q x H'
/-- spFeed: a new feed of the script -/
def spFeed (K : PySem.W.Frag) : Sp := fun vs H Q _ => ∃ (p : Addr) (ns : List Int), vs = [.ref p] ∧ SqL K H p (ns.map V.int) ∧ ns.length ≤ 63 ∧
  ∀ (d l : Addr) (cs : List Int) (H' : Hp), H d = none → H l = none → FeedAt H' d l cs 0 → Same H H' → Q (.ref d) H'
theorem iteY {c A B : Prop} [Decidable c] (h : c) (a : A) : if decide c = true then A else B := by
  rw [decide_eq_true h]
  exact iteT a
theorem iteN {c A B : Prop} [Decidable c] (h : ¬ c) (b : B) : if decide c = true then A else B := by
  rw [decide_eq_false h]
  exact iteF b
theorem iteNY {c A B : Prop} [Decidable c] (h : ¬ c) (a : A) : if (!decide c) = true then A else B := by
  rw [decide_eq_false h]
  exact iteT a
/-- the step of a draw as arithmetic -/
theorem digit {x m : Int} (h : 0 < m) : ∃ r : Nat, (r : Int) = x % m ∧ (r : Int) < m := by
  obtain ⟨r, e⟩ := Int.eq_ofNat_of_zero_le (Int.emod_nonneg x (show m ≠ 0 by omega))
  refine ⟨r, e.symm, ?_⟩
  have := Int.emod_lt_of_pos x h
  omega
end Fd
set_option Elab.async false
set_option linter.all false
set_option maxRecDepth 100000
set_option maxHeartbeats 4000000
/-! texts as lists of codes; index of one sign, list(text), text * number, join of single signs -/
namespace Tx
open PySem PySem.Spec PyProof.Rows L2
def tx (cs : List Nat) : Str := ⟨cs.toArray⟩
theorem tx_cps (cs : List Nat) : (tx cs).cps.toList = cs := by simp [tx]
theorem tx_len (cs : List Nat) : (tx cs).length = cs.length := by
  show (tx cs).cps.size = cs.length
  simp [tx]
theorem tx_inj {a b : List Nat} (h : tx a = tx b) : a = b := by
  have := congrArg (fun s : Str => s.cps.toList) h
  simpa [tx] using this
theorem tx_of (x : Str) : x = tx x.cps.toList := by
  cases x
  simp [tx]
/-- one sign -/
abbrev sg (c : Nat) : Str := ⟨#[c]⟩
theorem sg_tx (c : Nat) : sg c = tx [c] := rfl
theorem sg_inj {a b : Nat} (h : sg a = sg b) : a = b := by
  have := tx_inj (a := [a]) (b := [b]) h
  simpa using this
def sV (cs : List Nat) : List V := cs.map fun c => V.str (sg c)
theorem signsV_tx (cs : List Nat) : Zs.signsV (tx cs) = sV cs := by
  unfold Zs.signsV sV
  rw [tx_cps]
theorem tx_app (a b : List Nat) : tx a ++ tx b = tx (a ++ b) := by
  show (⟨a.toArray ++ b.toArray⟩ : Str) = ⟨(a ++ b).toArray⟩
  simp
theorem join_signs : ∀ cs : List Nat, Str.join (tx []) (cs.map sg) = tx cs
  | [] => rfl
  | [c] => rfl
  | c :: d :: r => by
    show sg c ++ tx [] ++ Str.join (tx []) ((d :: r).map sg) = tx (c :: d :: r)
    rw [join_signs (d :: r), sg_tx, tx_app, tx_app]
    rfl
theorem glued_signs (cs : List Nat) : Txt.join (tx []) (cs.map sg) = tx cs := by
  unfold Txt.join
  rw [StrLaws.glued_eq_join, join_signs]
theorem empty_tx : ("" : Str) = tx [] := by decide +kernel
section
variable {X : Cx}
/-- s.index(c), c one sign that is there -/
theorem mt_idx1 : MtR X "str.index" (fun x xs H Q => ∃ (cs : List Nat) (c i : Nat), x = .str (tx cs) ∧ xs = [.str (sg c)] ∧ cs[i]? = some c ∧ (∀ j, j < i → cs[j]? ≠ some c) ∧ Q (.int (i : Nat)) H) := by
  intro pins s σ H x xs v us Q I rx rs h
  obtain ⟨cs, c, i, ex, es, hi, hf, q⟩ := h
  rcases StrLaws.occ_head (tx cs) (sg c) 1 (Nat.le_refl _) with ⟨_, hn⟩ | ⟨k, r, ho, hk, hl⟩
  · exact absurd ((StrLaws.subAt_one (tx cs) c i).mpr (by rw [tx_cps]; exact hi)) (hn i)
  · have e1 : cs[k]? = some c := by
      have := (StrLaws.subAt_one (tx cs) c k).mp hk
      rwa [tx_cps] at this
    have e2 : k = i := by
      rcases Nat.lt_trichotomy k i with h | h | h
      · exact absurd e1 (hf k h)
      · exact h
      · exact absurd ((StrLaws.subAt_one (tx cs) c i).mpr (by rw [tx_cps]; exact hi)) (hl i h)
    subst e2
    exact mt_sindex pins s σ H x xs v us Q I rx rs ⟨tx cs, sg c, k, r, ex, es, ho, q⟩
/-- list(s) -/
theorem call_list_tx (hc : X.calm = true) : CallR X (.type "list") (fun xs H Q => ∃ cs : List Nat, xs = [.str (tx cs)] ∧ cs.length ≤ 1000 ∧ ∀ l, H l = none → Q (.ref l) (upd H l (.lst (sV cs)))) := by
  intro pins s σ H xs us Q I r h
  obtain ⟨cs, rfl, hz, q⟩ := h
  obtain ⟨u, rfl, t, rfl⟩ := vals1 r
  have hsz : (tx cs).cps.size ≤ sizeLine := by
    have : (tx cs).cps.size = cs.length := tx_len cs
    rw [this]
    exact Nat.le_of_lt (small1000 hz)
  refine call_list_str (I.ok.hd hc) (tx cs) t (hn := hsz) fun h' tk acc c hk hS hacc => ?_
  have hlen : acc.toList.length = cs.length := by
    rw [Array.length_toList, hacc.1]
    exact tx_len cs
  have rv : Vals (sV cs) acc.toList := by
    have key : ∀ (cs : List Nat) (l : List Value), l.length = cs.length → (∀ (j : Nat) (v : Value), l[j]? = some v → ∃ c u, cs[j]? = some c ∧ v = .str (sg c) u) → Vals (sV cs) l := by
      intro cs
      induction cs with
      | nil =>
        intro l hl _
        cases l with
        | nil => exact .nil
        | cons a b => cases hl
      | cons c cs ih =>
        intro l hl hv
        cases l with
        | nil => cases hl
        | cons a b =>
          obtain ⟨c', u, e1, e2⟩ := hv 0 a rfl
          have e3 : c = c' := Option.some.inj e1
          subst e3
          refine .cons ⟨u, e2⟩ (ih b (Nat.succ.inj hl) fun j v hj => hv (j + 1) v hj)
    refine key cs acc.toList hlen fun j v hj => ?_
    obtain ⟨c, u, hc', e⟩ := hacc.2 j v (by simpa using hj)
    refine ⟨c, u, ?_, e⟩
    have : (tx cs).cps.toList[j]? = some c := by
      rw [Array.getElem?_toList]
      exact hc'
    rwa [tx_cps] at this
  have new : ObjOk X.prog X.w (upd H s.heap.objs.size (.lst (sV cs))) h' s.heap.objs.size (.lst (sV cs)) := by
    refine ⟨?_, acc.toList, c, rv, by simpa using hS⟩
    unfold sV
    rw [List.length_map]
    exact Nat.le_of_lt (small1000 hz)
  exact ⟨.ref s.heap.objs.size, _, I.laid (t' := tk) hk (Nat.le_refl _) new, rfl, q _ (I.hok.fresh (Nat.le_refl _))⟩
/-- c * n, c one sign -/
theorem op_mul_tx : OpR X (binaryOp .Mult) (fun x y H Q => ∃ (c n : Nat), x = .str (sg c) ∧ y = .int (n : Int) ∧ 1 ≤ n ∧ n ≤ 1000 ∧ Q (.str (tx (List.replicate n c))) H) := by
  intro pins s σ H x y v u Q I rx ry h
  obtain ⟨c, n, rfl, rfl, h1, h2, q⟩ := h
  obtain ⟨t, rfl⟩ := rx
  obtain ⟨t', rfl⟩ := ry
  have hrep : ∀ (n : Nat) (acc : Array Nat), ((List.replicate n (#[c] : Array Nat)).foldl (· ++ ·) acc).toList = acc.toList ++ List.replicate n c := by
    intro n
    induction n with
    | zero => intro acc; simp
    | succ n ih =>
      intro acc
      rw [List.replicate_succ, List.foldl_cons, ih, List.replicate_succ]
      simp
  refine PySem.P.mul_str ?_ (fun _ _ => ?_) (fun _ _ => ?_) ?_
  · rw [decide_eq_false (by omega), decide_eq_false (by omega)]
    rfl
  · show ¬ ((1 : Int) > (2 ^ 63 - 1) / (n : Int))
    have h3 : (1 : Int) ≤ (2 ^ 63 - 1) / (n : Int) := by
      refine (Int.le_ediv_iff_mul_le (by omega)).mpr ?_
      omega
    omega
  · have e : (sg c).length = 1 := rfl
    rw [e, Nat.one_mul]
    unfold Builtin.Str.tooLong
    have h3 := small1000 h2
    exact decide_eq_false (by omega)
  · have h0 : ¬ ((n : Int) < 1) := by omega
    rw [if_neg h0]
    by_cases e1 : n = 1
    · subst e1
      rw [if_pos (by rfl)]
      exact ⟨.str (tx [c]), H, I, ⟨_, rfl⟩, q⟩
    · have e2 : (((n : Int) == 1) || ((sg c).length == 0)) = false := by
        have : ((n : Int) == 1) = false := by
          rw [beq_eq_false_iff_ne]
          omega
        rw [this]
        rfl
      rw [if_neg (by rw [e2]; exact Bool.false_ne_true)]
      have e3 : (⟨(List.replicate (n : Int).toNat (sg c).cps).foldl (· ++ ·) #[]⟩ : Str) = tx (List.replicate n c) := by
        rw [tx_of ⟨_⟩]
        congr 1
        have := hrep n #[]
        simpa using this
      rw [e3]
      refine ⟨?_, .str (tx (List.replicate n c)), H, I.tok _, ⟨_, rfl⟩, q⟩
      rw [tx_len, List.length_replicate]
      exact Nat.le_of_lt (small1000 h2)
end
end Tx
set_option Elab.async false
set_option linter.all false
set_option maxRecDepth 100000
set_option maxHeartbeats 4000000
/-! comprehensions over any store: what a turn does with the store is a parameter. Sets of keys; dicts whose keys are tuples. -/
namespace Cc
open PySem PySem.Spec PyProof.Rows L2
/-- what one turn does with the store acc: what is wished behind it, and of an exception -/
abbrev Bd := Around → Env → Value → (Shared → Prop) → (Value → Shared → Prop) → Shared → Prop
/-- one turn, as the machine goes it -/
def Goes (P : Program) (w : World) (A : Around) (tg : Expr) (ifs : List Expr) (bd : Bd) (it acc : Value) (env : Env) (R : Result → Shared → Prop) (I : Nat → Shared → Prop) : Prop :=
  ∀ n s, I n s → wpAny (model P w) A (pyNext it) (fun r s₁ => match r with
    | none => R (.ok .next) s₁
    | some v => wpAny (model P w) A (letOwnedTupleGo tg it v) (fun _ s₁' => wpAny (model P w) A (assign tg env v) (fun _ s₂ =>
        wpAny (model P w) A (forIn ifs true fun c r => if r = true then do let ok ← isTrue c env (eval c env); pure (ForInStep.yield ok) else pure (ForInStep.yield r)) (fun ok s₃ =>
          if ok = true then bd A env acc (fun s₅ => ∃ m, m < n ∧ I m s₅) (notedBy (model P w) A env fun e s' => R (.error e) s') s₃
          else ∃ m, m < n ∧ I m s₃) (notedBy (model P w) A env fun e s' => R (.error e) s') s₂) (notedBy (model P w) A env fun e s' => R (.error e) s') s₁') (notedBy (model P w) A env fun e s' => R (.error e) s') s₁) (notedBy (model P w) A env fun e s' => R (.error e) s') s
/-- a comprehension's node: how its store is made (o0), begun and gone through -/
structure Node (P : Program) (w : World) (e0 tg iter : Expr) (ifs : List Expr) (mk : Sem Value) (o0 : Obj) (bd : Bd) : Prop where
  cl : clausesOf e0 = [⟨tg, iter, ifs, 0⟩]
  made : ∀ (A : Around) (s : Shared) (Q : Value → Shared → Prop) (E : Value → Shared → Prop), Q (.ref s.heap.objs.size) { s with heap := s.heap.push o0 } → wpAny (model P w) A mk Q E s
  start : ∀ (A : Around) (env : Env) (it acc : Value) (R : Result → Shared → Prop) (s : Shared), codeAny (model P w) A (.compLoop e0 0 it acc env) R s →
    wpAny (model P w) A (pyIter it) (fun it' s' => codeAny (model P w) A (.compLoop e0 0 it' acc env) R s') (notedBy (model P w) A env fun x s' => R (.error x) s') s → codeAny (model P w) A (.compStart e0 0 it acc env) R s
  loop : ∀ (A : Around) (env : Env) (it : Value) (D : Addr) (R : Result → Shared → Prop) (s : Shared) (I : Nat → Shared → Prop) (n : Nat), Goes P w A tg ifs bd it (.ref D) env R I → I n s → codeAny (model P w) A (.compLoop e0 0 it (.ref D) env) R s
/-- the reading: O0 the new store, tb what a turn's end asks -/
def tCc (O0 : Addr → HO) (wi : TI) (g : TG) (tt : TT) (tb : Addr → L2.St → Hp → (Hp → Prop) → Prop) (vs : List Nat) : TE := fun σ H Q => wi σ H fun J H1 => ∀ D, H1 D = none → ∃ W : Nat → Nat → Hp → Prop, (∃ m, W 0 m (upd H1 D (O0 D))) ∧ ∀ i m H, W i m H →
  (J.stop i H ∧ Q (.ref D) H) ∨ (J.go i H ∧ ∃ Nx : Hp → Prop, (∀ H', Nx H' → ∃ m', m' < m ∧ W (i + 1) m' H') ∧ ∀ x H', J.yld i H x H' → g x (wipe σ vs) H' fun σ2 H2 => wipe σ2 vs = wipe σ vs ∧ tt σ2 H2 fun b H3 =>
    if b = true then tb D σ2 H3 Nx else Nx H3)
/-- what the block's own part of a turn must do -/
def Bod (X : Cx) (scope : Scope) (bd : Bd) (tb : Addr → L2.St → Hp → (Hp → Prop) → Prop) : Prop :=
  ∀ (s : Shared) (H : Hp) (C : Addr) (cl : List (PySem.Str × Addr)) (fp : List Addr) (pins : List (Addr × Obj)) (s9 : Shared) (σ8 : L2.St) (H9 : Hp) (D : Addr) (Nx : Hp → Prop) (Kd : Shared → Prop) (Er : Value → Shared → Prop),
    Inv (X.blk s H scope (compEnvC scope cl C X.env) fp) pins σ8 H9 s9 → tb D σ8 H9 Nx → (∀ (s' : Shared) (H' : Hp), Inv (X.blk s H scope (compEnvC scope cl C X.env) fp) pins σ8 H' s' → Nx H' → Kd s') →
    bd X.A (compEnvC scope cl C X.env) (.ref D) Kd Er s9
section
variable {X : Cx} {e0 tg iter : Expr} {ifs : List Expr} {mk : Sem Value} {o0 : Obj} {bd : Bd} {O0 : Addr → HO} {wi : TI} {g : TG} {tt : TT} {tb : Addr → L2.St → Hp → (Hp → Prop) → Prop} {scope : Scope} {own : List (PySem.Str × Nat)}
theorem core {pins : List (Addr × Obj)} {s : Shared} {σ : L2.St} {H : Hp} {Q : VK} {pos' : Pos} {use : Option (Value → Sem Unit)} {Qf : Value → Shared → Prop} (Nd : Node X.prog X.w e0 tg iter ifs mk o0 bd)
    (hO : ∀ (H : Hp) (h : Heap), sysModules < h.objs.size → ObjOk X.prog X.w H (h.push o0) h.objs.size (O0 h.objs.size))
    (hc : X.calm = true) (hN : X.N.Nodup) (I : Inv X pins σ H s) (hi : PI X tg iter wi) (ok : BlkOk X.N X.env.scope scope own)
    (hg : ∀ (s : Shared) (H : Hp) (C : Addr) (cl : List (PySem.Str × Addr)) (fp : List Addr), PG (X.blk s H scope (compEnvC scope cl C X.env) fp) tg g) (ht : ∀ (s : Shared) (H : Hp) (C : Addr) (cl : List (PySem.Str × Addr)) (fp : List Addr), PTs (X.blk s H scope (compEnvC scope cl C X.env) fp) ifs tt)
    (hb : Bod X scope bd tb) (hs : ∀ x, foldedSetIterable iter X.env x = pure x) (h : tCc O0 wi g tt tb (own.map (·.2)) σ H Q)
    (hRR : ∀ D C s' m H', Inv X pins σ H' s' → Q (.ref D) H' → s'.heap.Ns C m → FpOk X pins H' C → compPost (model X.prog X.w) X.A X.xe use Qf (.ref D) C (.ok .next) s') :
    wpAny (model X.prog X.w) X.A (comprehension e0 scope X.env pos' mk false (eval iter X.env) use) Qf X.xe s := by
  have cells : ∀ y ∈ scope.names, y.2 = .free → ∃ c, X.env.cells.lookup y.1 = some c := fun y hy e => (ok.free y hy e).elim (fun k => I.ok.has _ (.inl k)) fun k => I.ok.has _ (.inr k)
  refine wpAny_comprehension_free (use := use) Nd.cl hs (closure_ok cells) ok.kind (fun y hy e => by rw [ok.uniq y hy, e])
    (thn (hi.run pins s σ H _ I h) fun xv s1 hx => thn hx fun itv s2 ⟨it, fp, tn, J, H2, ei, I2, T, st2, f2, q⟩ => ?_)
  subst ei
  refine Nd.made _ _ _ _ (newEnv_comp ?_)
  have hDn : H2 s2.heap.objs.size = none := I2.hok.fresh (Nat.le_refl _)
  obtain ⟨W, ⟨m0, w0⟩, turn⟩ := q _ hDn
  have new := hO (upd H2 s2.heap.objs.size (O0 s2.heap.objs.size)) s2.heap I2.big
  generalize hD : s2.heap.objs.size = D at hDn turn w0 new
  generalize hs3 : ({ s2 with heap := s2.heap.push o0 } : Shared) = s3
  have h3 : s3.heap = s2.heap.push o0 := by rw [← hs3]
  have I3 : Inv X pins σ (upd H2 D (O0 D)) s3 := by
    rw [← hs3]
    exact I2.laid (t' := s2.toks) (fun b o e => Heap.get?_push_of_some _ e) (Nat.le_of_eq hD) new
  have old : ∀ b ∈ fp, b < D := fun b hb' => by
    obtain ⟨o, e, _⟩ := T.obj _ _ st2 b hb'
    rw [← hD]
    exact Heap.lt_size e
  have f3 : ∀ b ∈ fp, FpOk X pins (upd H2 D (O0 D)) b ∧ b < s3.heap.objs.size := fun b hb' => by
    have hlt := old b hb'
    refine ⟨⟨?_, (f2 b hb').2⟩, by rw [h3, Heap.size_push, hD]; exact Nat.lt_succ_of_lt hlt⟩
    rw [upd_ne (Nat.ne_of_lt hlt)]
    exact (f2 b hb').1
  have st3 : tn 0 s3.heap := T.keep _ _ _ st2 fun b _ o e => by rw [h3]; exact Heap.get?_push_of_some _ e
  have I4 := block_start I3 ok hN f3
  generalize hH3 : upd H2 D (O0 D) = H3 at I3 I4 w0 f3
  have pg := hg s3 H3 s3.heap.objs.size (cellsFrom (s3.heap.objs.size + 1) scope.names (cloFrom X.env.cells scope.names [])) fp
  have pt := ht s3 H3 s3.heap.objs.size (cellsFrom (s3.heap.objs.size + 1) scope.names (cloFrom X.env.cells scope.names [])) fp
  have pb := hb s3 H3 s3.heap.objs.size (cellsFrom (s3.heap.objs.size + 1) scope.names (cloFrom X.env.cells scope.names [])) fp
  show codeAny _ _ (.compStart e0 0 (.ref it) (.ref D) (compEnvC scope (cellsFrom (s3.heap.objs.size + 1) scope.names (cloFrom X.env.cells scope.names [])) s3.heap.objs.size X.env)) (compPost (model X.prog X.w) X.A X.xe use Qf (.ref D) s3.heap.objs.size) { s3 with heap := pushCells (s3.heap.push { cls := .type "dict", data := .dict #[] }) scope.names }
  generalize hce : compEnvC scope (cellsFrom (s3.heap.objs.size + 1) scope.names (cloFrom X.env.cells scope.names [])) s3.heap.objs.size X.env = ce at I4 pg pt pb ⊢
  have cL : ce.locals = s3.heap.objs.size := by rw [← hce]; rfl
  generalize hs4 : ({ s3 with heap := pushCells (s3.heap.push { cls := .type "dict", data := .dict #[] }) scope.names } : Shared) = s4 at I4 ⊢
  have st4 : tn 0 s4.heap := T.keep _ _ _ st3 fun b _ o e => by rw [← hs4]; exact pushCells_keeps _ _ _ _ (Heap.get?_push_of_some _ e)
  have away : ∀ {σ' : L2.St} {H' : Hp} {s' : Shared}, Inv (X.blk s3 H3 scope ce fp) [] σ' H' s' → (∀ b ∈ fp, H' b = none) → ∀ b ∈ fp, FpOk (X.blk s3 H3 scope ce fp) [] H' b := fun {σ' H' s'} I' hn b hb' =>
    ⟨hn b hb', (I'.ok.exf b hb').1, I'.ok.exfs b hb', .inl hb', fun x c e => (I'.ok.exf b hb').2 x c e, fun p hp => absurd (show p ∈ ([] : List (Addr × Obj)) ++ [] from hp) (by simp)⟩
  have loop : codeAny (model X.prog X.w) X.A (.compLoop e0 0 (.ref it) (.ref D) ce) (compPost (model X.prog X.w) X.A X.xe use Qf (.ref D) s3.heap.objs.size) s4 := by
    refine Nd.loop _ _ _ _ _ _ (fun n s' => ∃ i H', Inv (X.blk s3 H3 scope ce fp) [] (wipe σ (own.map (·.2))) H' s' ∧ tn i s'.heap ∧ (∀ b ∈ fp, H' b = none) ∧ W i n H') m0 ?_ ⟨0, H3, I4, st4, fun b hb' => (f3 b hb').1.1, w0⟩
    rintro n s5 ⟨i, H5, I5, st5, n5, w5⟩
    rcases turn i n H5 w5 with ⟨stop, qq⟩ | ⟨go, Nx, hNx, step⟩
    · refine thnF (T.done (X.blk s3 H3 scope ce fp) rfl rfl rfl hc i [] s5 _ H5 (fun _ _ => False) I5 (away I5 n5) st5 stop) fun r s6 ⟨hr, I6⟩ => ?_
      subst hr
      have I7 : Inv X pins σ H5 s6 := I3.call' (ch := fp) I6.os I6.base I6.hok I6.bare fun b hb' => ⟨(f3 b hb').1.2.2.2.1, (f3 b hb').1.2.1, (f3 b hb').1.2.2.2.2.1, (f3 b hb').1.2.2.2.2.2⟩
      have nC : H5 ce.locals = none := I6.free
      obtain ⟨m, hn, _⟩ := I6.loc
      have hn' : s6.heap.Ns ce.locals m := hn
      rw [cL] at nC hn'
      exact hRR D s3.heap.objs.size s6 m H5 I7 qq hn' (I3.fpOk (Nat.le_refl _) nC)
    · refine thnF (T.item (X.blk s3 H3 scope ce fp) rfl rfl rfl hc i [] s5 _ H5 (fun _ _ => False) I5 (away I5 n5) st5 go) fun r s6 ⟨u, hr, h6⟩ => ?_
      subst hr
      refine thnF h6 fun _ s7 ⟨x, H7, I7, r7, y7, st7, n7⟩ => ?_
      refine thnF (pg.run _ s7 _ H7 x u _ (I7.pinned (away I7 n7) (T.obj _ _ st7)) r7 (step x H7 y7)) fun _ s8 ⟨σ8, H8, I8, hw8, q8⟩ => ?_
      refine thnF (pt.run _ s8 σ8 H8 _ I8 q8) fun b s9 ⟨H9, I9, q9⟩ => ?_
      have last : ∀ (s' : Shared) (H' : Hp), Inv (X.blk s3 H3 scope ce fp) ([] ++ pinsAt fp s7.heap) σ8 H' s' → Nx H' → ∃ m, m < n ∧ ∃ i H', Inv (X.blk s3 H3 scope ce fp) [] (wipe σ (own.map (·.2))) H' s' ∧ tn i s'.heap ∧ (∀ b ∈ fp, H' b = none) ∧ W i m H' := fun s' H' I' nx => by
        obtain ⟨m', hm, w'⟩ := hNx H' nx
        have pin' : ∀ b ∈ fp, ∀ o, s7.heap.get? b = some o → s'.heap.get? b = some o ∧ H' b = none := fun b hb' o e => by
          have z := I'.pin (b, o) (List.mem_append_right _ (List.mem_append_right _ (mem_pinsAt hb' e)))
          exact ⟨z.1, z.2.1⟩
        refine ⟨m', hm, i + 1, H', (I'.unpinned (pins := [])).weak (by rw [← hw8, wipe_length]) (fun j v e => ?_), T.keep _ _ _ st7 fun b hb' o e => (pin' b hb' o e).1, fun b hb' => ?_, w'⟩
        · rw [← hw8] at e
          exact (wipe_some e).1
        · obtain ⟨o, e, _⟩ := T.obj _ _ st7 b hb'
          exact (pin' b hb' o e).2
      cases b with
      | false =>
        simp only [Bool.false_eq_true, if_false] at q9 ⊢
        exact last _ _ I9 q9
      | true =>
        simp only [if_true] at q9 ⊢
        subst hce
        exact pb _ s9 σ8 H9 D Nx _ _ I9 q9 last
  exact Nd.start _ _ _ _ _ _ loop (T.self X.A 0 _ _ _ st4 loop)
end
/-! ### sets of keys -/
def bdSet (elt : Expr) (P : Program) (w : World) : Bd := fun A env acc Kd Er s => wpAny (model P w) A (eval elt env) (fun x s₄ => wpAny (model P w) A (call (.builtin "set.add") [acc, x]) (fun _ s₅ => Kd s₅) Er s₄) Er s
theorem node_set {P : Program} {w : World} {elt tg iter : Expr} {ifs : List Expr} {scope : Scope} {pos : Pos} :
    Node P w (.SetComp elt [⟨tg, iter, ifs, 0⟩] scope pos) tg iter ifs (newSet (.type "set")) { cls := .type "set", dict := none, data := .set #[] 0 (.fresh 0 0 (!w.params.followText "set-order")) } (bdSet elt P w) where
  cl := rfl
  made := fun A s Q E h => PpSet.newSet_ok h
  start := fun A env it acc R s h0 h => PpSet.codeAny_compStart_set h0 h
  loop := fun A env it D R s I n h hI => PpSet.compLoopS_any I h n hI
theorem setK_fresh {P : Program} {w : World} (H : Hp) (h : Heap) : ObjOk P w H (h.push { cls := .type "set", dict := none, data := .set #[] 0 (.fresh 0 0 (!w.params.followText "set-order")) }) h.objs.size (SetK P w h.objs.size (fun _ => false) 0) :=
  setK_new ⟨_, #[], 0, _, Heap.get?_push_size _ rfl, ⟨rfl, rfl, rfl⟩, rfl, (fun e he => by simp at he), (fun k => by simp), (by decide), (by rfl), rfl⟩
def tbSet (P : Program) (w : World) (te : TE) : Addr → L2.St → Hp → (Hp → Prop) → Prop := fun D σ H Nx => te σ H fun y H4 => ∃ (k : Key) (S : Key → Bool) (n : Nat), y = kV k ∧ H4 D = some (SetK P w D S n) ∧ n + 1 < scanBound ∧
  Nx (upd H4 D (SetK P w D (fun j => S j || decide (j = k)) (if S k = true then n else n + 1)))
section
variable {X : Cx}
theorem pe_setk {elt tg iter : Expr} {ifs : List Expr} {scope : Scope} {own : List (PySem.Str × Nat)} {pos : Pos} {wi : TI} {g : TG} {tt : TT} {te : TE} (hc : X.calm = true) (hN : X.N.Nodup) (hi : PI X tg iter wi) (ok : BlkOk X.N X.env.scope scope own)
    (hg : ∀ (s : Shared) (H : Hp) (C : Addr) (cl : List (PySem.Str × Addr)) (fp : List Addr), PG (X.blk s H scope (compEnvC scope cl C X.env) fp) tg g) (ht : ∀ (s : Shared) (H : Hp) (C : Addr) (cl : List (PySem.Str × Addr)) (fp : List Addr), PTs (X.blk s H scope (compEnvC scope cl C X.env) fp) ifs tt)
    (he : ∀ (s : Shared) (H : Hp) (C : Addr) (cl : List (PySem.Str × Addr)) (fp : List Addr), PE (X.blk s H scope (compEnvC scope cl C X.env) fp) elt te) (hs : ∀ x, foldedSetIterable iter X.env x = pure x := by intro _; rfl) :
    PE X (.SetComp elt [⟨tg, iter, ifs, 0⟩] scope pos) (tCc (fun D => SetK X.prog X.w D (fun _ => false) 0) wi g tt (tbSet X.prog X.w te) (own.map (·.2))) := by
  refine ⟨fun pins s σ H Q I h => ?_⟩
  rw [PpSet.eval_SetComp]
  refine core node_set (fun H h _ => setK_fresh H h) hc hN I hi ok hg ht ?_ hs h fun D C s' m H' I' q hn f => ⟨m, hn, fun h'' sb => ?_⟩
  · intro s0 H0 C cl fp pins s9 σ8 H9 D Nx Kd Er I9 q9 last
    refine thnF ((he s0 H0 C cl fp).run _ s9 σ8 H9 _ I9 q9) fun z s10 ⟨yv, H10, I10, r10, k, S, n, ey, hD, room, nx⟩ => ?_
    subst ey
    refine thnF (mt_saddK (X := X.blk s0 H0 scope (compEnvC scope cl C X.env) fp) pins s10 σ8 H10 (.ref D) [kV k] (.ref D) [z] (fun _ H' => Nx H') I10 rfl (.cons r10 .nil) ⟨D, k, S, n, rfl, rfl, hD, room, nx⟩) fun _ s11 hh => ?_
    obtain ⟨v, H', I', _, nx'⟩ := hh
    exact last _ _ I' nx'
  · obtain ⟨f0, f1, f2, f3, f4, f5⟩ := f
    exact ⟨.ref D, H', I'.turned (t' := s'.toks) (fun b o hb e => (sb.2 b hb).trans e) f0 f1 f3 f4 f5, rfl, q⟩
end
/-- len(a set of keys) -/
theorem call_lenK {X : Cx} : CallR X (.builtin "len") (fun xs H Q => ∃ (a : Addr) (S : Key → Bool) (n : Nat), xs = [.ref a] ∧ H a = some (SetK X.prog X.w a S n) ∧ n < 64 ∧ Q (.int n) H) := by
  intro pins s σ H xs us Q I r h
  obtain ⟨a, S, n, rfl, ha, hn64, q⟩ := h
  obtain ⟨u, rfl, ru⟩ := vals1 r
  cases (show u = Value.ref a from ru)
  obtain ⟨o, es, ep, t, ho, hex, hd, _, _, _, hf, hn⟩ := setK_get I ha
  exact call_len_set ho hex hd hf (by rw [hn] <;> omega) ⟨.int n, H, I.tok _, ⟨_, by rw [hn]⟩, q⟩
/-! ### dicts whose keys are tuples -/
def accA : Value → Addr
  | .ref D => D
  | _ => 0
def bdDict (kx vx : Expr) (P : Program) (w : World) : Bd := fun A env acc Kd Er s => wpAny (model P w) A (eval kx env) (fun kv s₄ => wpAny (model P w) A (eval vx env) (fun vv s₅ => wpAny (model P w) A (dictSet (accA acc) kv vv) (fun _ s₆ => Kd s₆) Er s₅) Er s₄) Er s
theorem node_dict {P : Program} {w : World} {kx vx tg iter : Expr} {ifs : List Expr} {scope : Scope} {pos : Pos} :
    Node P w (.DictComp kx vx [⟨tg, iter, ifs, 0⟩] scope pos) tg iter ifs newDict { cls := .type "dict", data := .dict #[] } (bdDict kx vx P w) where
  cl := rfl
  made := fun A s Q E h => wpAny_newObj_type h
  start := fun A env it acc R s h0 h => codeAny_compStart_dict h0 h
  loop := fun A env it D R s I n h hI => compLoop_anyD I h n hI
theorem t_dictSet {X : Cx} {pins : List (Addr × Obj)} {σ : L2.St} {H : Hp} {s : Shared} {E : Value → Shared → Prop} {D b : Addr} {kvs : List (List Key × V)} {k : List Key} {v : V} {r : Value} {Q : Unit → Shared → Prop} (hu : X.A.units + 1 < cLine) (I : Inv X pins σ H s) (hD : H D = some (.dT kvs)) (hz : kvs.length < sizeLine)
    (eb : H b = some (.tup (k.map kV))) (rv : RelV v r) (h : ∀ s', Inv X pins σ (upd H D (.dT (putK kvs k v))) s' → Q () s') : wpAny (model X.prog X.w) X.A (dictSet D (.ref b) r) Q E s := by
  obtain ⟨z, hd, xs, rel, dd⟩ := dt_of I.hok hD
  have hzx : xs.length ≤ sizeLine := by
    rw [← Paired.length rel]
    exact z
  have hl : (putK kvs k v).length ≤ sizeLine := by
    have := length_putK kvs k v
    omega
  refine wpAny_dictSet_heap (hsz := hzx) (show X.A.units < cLine by omega) (key_of I.hok eb) dd fun h' dd' hs => h _ ?_
  obtain ⟨o, es, ep, ho, h2, h3, h4, _, h5⟩ := dd'
  refine d_write I (by rw [hD]; exact True.intro) hs ⟨o, ho⟩ ⟨hl, hd, _, (rel.put k eb rv).keeps fun c ys ec => ?_, o, es, ep, ho, h2, h3, h4, h5⟩
  rw [upd_ne (ne_of ec hD (fun z => nomatch z))]
  exact ec
def tbDict (tk tv : TE) : Addr → L2.St → Hp → (Hp → Prop) → Prop := fun D σ H Nx => tk σ H fun y H4 => tv σ H4 fun z H5 => ∃ (b : Addr) (k : List Key) (kvs : List (List Key × V)), y = .ref b ∧ H5 b = some (.tup (k.map kV)) ∧ H5 D = some (.dT kvs) ∧ kvs.length < sizeLine ∧ Nx (upd H5 D (.dT (putK kvs k z)))
section
variable {X : Cx}
theorem pe_dictT {kx vx tg iter : Expr} {ifs : List Expr} {scope : Scope} {own : List (PySem.Str × Nat)} {pos : Pos} {wi : TI} {g : TG} {tt : TT} {tk tv : TE} (hu : X.A.units + 1 < cLine) (hc : X.calm = true) (hN : X.N.Nodup) (hi : PI X tg iter wi) (ok : BlkOk X.N X.env.scope scope own)
    (hg : ∀ (s : Shared) (H : Hp) (C : Addr) (cl : List (PySem.Str × Addr)) (fp : List Addr), PG (X.blk s H scope (compEnvC scope cl C X.env) fp) tg g) (ht : ∀ (s : Shared) (H : Hp) (C : Addr) (cl : List (PySem.Str × Addr)) (fp : List Addr), PTs (X.blk s H scope (compEnvC scope cl C X.env) fp) ifs tt)
    (hk : ∀ (s : Shared) (H : Hp) (C : Addr) (cl : List (PySem.Str × Addr)) (fp : List Addr), PE (X.blk s H scope (compEnvC scope cl C X.env) fp) kx tk)
    (he : ∀ (s : Shared) (H : Hp) (C : Addr) (cl : List (PySem.Str × Addr)) (fp : List Addr), PE (X.blk s H scope (compEnvC scope cl C X.env) fp) vx tv) (hs : ∀ x, foldedSetIterable iter X.env x = pure x := by intro _; rfl) :
    PE X (.DictComp kx vx [⟨tg, iter, ifs, 0⟩] scope pos) (tCc (fun _ => .dT []) wi g tt (tbDict tk tv) (own.map (·.2))) := by
  refine ⟨fun pins s σ H Q I h => ?_⟩
  rw [arm_eval_DictComp]
  refine core node_dict (fun H h hbig => dt_empty h hbig) hc hN I hi ok hg ht ?_ hs h fun D C s' m H' I' q hn f => ⟨m, hn, fun h'' sb => ?_⟩
  · intro s0 H0 C cl fp pins s9 σ8 H9 D Nx Kd Er I9 q9 last
    refine thnF ((hk s0 H0 C cl fp).run _ s9 σ8 H9 _ I9 q9) fun z s10 ⟨y, H10, I10, r10, q10⟩ => ?_
    refine thnF ((he s0 H0 C cl fp).run _ s10 σ8 H10 _ I10 q10) fun z2 s11 ⟨yv, H11, I11, r11, b, k, kvs, ey, eb, hD, hz, nx⟩ => ?_
    subst ey
    cases (show z = Value.ref b from r10)
    exact t_dictSet (X := X.blk s0 H0 scope (compEnvC scope cl C X.env) fp) hu I11 hD hz eb r11 fun s12 I12 => last _ _ I12 nx
  · obtain ⟨f0, f1, f2, f3, f4, f5⟩ := f
    exact ⟨.ref D, H', I'.turned (t' := s'.toks) (fun b o hb e => (sb.2 b hb).trans e) f0 f1 f3 f4 f5, rfl, q⟩
end
/-! ### the reading by a walk -/
theorem cc_it {J : It} {n : Nat} {G : Hp → Prop} {Y : Nat → Hp → V → Hp → Prop} (w : Walk J n G Y) {O0 : Addr → HO} {g : TG} {tt : TT} {tb : Addr → L2.St → Hp → (Hp → Prop) → Prop} {vs : List Nat} {σ : L2.St} {H1 : Hp} {D : Addr} {Qd : Hp → Prop} (Pv : Nat → Hp → Prop) (h0 : Pv 0 (upd H1 D (O0 D)))
    (hG : ∀ i H, i ≤ n → Pv i H → G H)
    (hs : ∀ i x H H', i < n → Pv i H → Y i H x H' → g x (wipe σ vs) H' fun σ2 H2 => wipe σ2 vs = wipe σ vs ∧ tt σ2 H2 fun b H3 => if b = true then tb D σ2 H3 (Pv (i + 1)) else Pv (i + 1) H3) (hd : ∀ H, Pv n H → Qd H) :
    ∃ W : Nat → Nat → Hp → Prop, (∃ m, W 0 m (upd H1 D (O0 D))) ∧ ∀ i m H, W i m H →
      (J.stop i H ∧ Qd H) ∨ (J.go i H ∧ ∃ Nx : Hp → Prop, (∀ H', Nx H' → ∃ m', m' < m ∧ W (i + 1) m' H') ∧ ∀ x H', J.yld i H x H' → g x (wipe σ vs) H' fun σ2 H2 => wipe σ2 vs = wipe σ vs ∧ tt σ2 H2 fun b H3 => if b = true then tb D σ2 H3 Nx else Nx H3) := by
  refine ⟨fun i m H => m = n - i ∧ i ≤ n ∧ Pv i H, ⟨n, by simp, Nat.zero_le _, h0⟩, ?_⟩
  rintro i m H ⟨rfl, hi, p⟩
  have q := hG i H hi p
  by_cases hlt : i < n
  · exact .inr ⟨w.goes i H hlt q, Pv (i + 1), fun H' p' => ⟨n - (i + 1), by omega, rfl, hlt, p'⟩, fun x H' y => hs i x H H' hlt p (w.yields i H x H' hlt q y)⟩
  · have e : i = n := by omega
    subst e
    exact .inl ⟨w.stops H q, hd H p⟩
end Cc
set_option Elab.async false
set_option linter.all false
set_option maxRecDepth 100000
set_option maxHeartbeats 4000000
/-! The pure layer: data without a heap, what stands for them, functions as wishes. -/
namespace Pu
open PySem PySem.Spec PyProof.Rows L2 Fd Tx
/-- keys of dicts -/
abbrev Ky := Sum Int (List Nat)
def kyK : Ky → Key
  | .inl i => .inl i
  | .inr s => .inr (tx s)
theorem kyK_inj {a b : Ky} (h : kyK a = kyK b) : a = b := by
  cases a with
  | inl i => cases b with
    | inl j => exact congrArg Sum.inl (Sum.inl.inj h)
    | inr t => exact nomatch h
  | inr s => cases b with
    | inl j => exact nomatch h
    | inr t => exact congrArg Sum.inr (tx_inj (Sum.inr.inj h))
/-- data: obj c vs: an object of the class numbered c, its fields in the class's order -/
inductive D where
  | non | bl (b : Bool) | int (i : Int) | str (s : List Nat)
  | tup (xs : List D) | lst (xs : List D)
  | dic (ks : List Ky) (xs : List D) | dct (ks : List (List Ky)) (xs : List D)
  | obj (c : Nat) (xs : List D)
  | feed
/-- texts alone (a written tuple is such) -/
def allS : List D → Bool
  | [] => true
  | .str _ :: xs => allS xs
  | _ :: _ => false
def TupAt (K : PySem.W.Frag) (H : Hp) (a : Addr) (xs : List D) (vs : List V) : Prop := H a = some (.tup vs) ∨ (allS xs = true ∧ SqT K H a vs)
/-- an exception: its class's number, its fields -/
structure Xn where
  c : Nat
  xs : List D
/-- wishes: the Nat counts draws -/
abbrev M (α : Type) := Nat → (α → Nat → Prop) → (Xn → Nat → Prop) → Prop
def ret {α : Type} (a : α) : M α := fun n Q _ => Q a n
def bnd {α β : Type} (m : M α) (f : α → M β) : M β := fun n Q E => m n (fun a n' => f a n' Q E) E
def nay {α : Type} : M α := fun _ _ _ => False
def lft {α : Type} : Option α → M α
  | some a => ret a
  | none => nay
theorem bnd_ret {α β : Type} (a : α) (f : α → M β) : bnd (ret a) f = f a := rfl
theorem bnd_bnd {α β γ : Type} (m : M α) (f : α → M β) (g : β → M γ) : bnd (bnd m f) g = bnd m fun a => bnd (f a) g := rfl
theorem ret_bnd {α : Type} (m : M α) : bnd m ret = m := rfl
theorem bnd_lft {α β : Type} (a : α) (f : α → M β) : bnd (lft (some a)) f = f a := rfl
theorem lft_some {α : Type} (a : α) : lft (some a) = ret a := rfl
theorem bnd_nay {α β : Type} (f : α → M β) : bnd nay f = nay := rfl
/-- the ground: the written part, the classes, the feed -/
structure Gr where
  K : PySem.W.Frag
  cls : Nat → Addr
  nms : Nat → List Str
  fd : Addr
  fl : Addr
mutual
def Rep (G : Gr) (H : Hp) : D → V → Prop
  | .non, v => v = .non
  | .bl b, v => v = .bl b
  | .int i, v => v = .int i
  | .str s, v => v = .str (tx s)
  | .tup xs, v => ∃ a vs, v = .ref a ∧ TupAt G.K H a xs vs ∧ Reps G H xs vs
  | .lst xs, v => ∃ a vs, v = .ref a ∧ H a = some (.lst vs) ∧ Reps G H xs vs
  | .dic ks xs, v => ∃ a vs, v = .ref a ∧ Rd H a (.dK ((ks.map kyK).zip vs)) ∧ ks.length = vs.length ∧ Reps G H xs vs
  | .dct ks xs, v => ∃ a vs, v = .ref a ∧ Rd H a (.dT ((ks.map fun k => k.map kyK).zip vs)) ∧ ks.length = vs.length ∧ Reps G H xs vs
  | .obj c xs, v => ∃ a dx vs, v = .ref a ∧ H a = some (.ins (G.cls c) dx ((G.nms c).zip vs)) ∧ (G.nms c).length = vs.length ∧ Reps G H xs vs
  | .feed, v => v = .ref G.fd
def Reps (G : Gr) (H : Hp) : List D → List V → Prop
  | [], vs => vs = []
  | x :: xs, vs => ∃ v r, vs = v :: r ∧ Rep G H x v ∧ Reps G H xs r
end
section
variable {G : Gr} {H H' : Hp}
theorem rep_non {v : V} : Rep G H .non v ↔ v = .non := by rw [Rep]
theorem rep_bl {b : Bool} {v : V} : Rep G H (.bl b) v ↔ v = .bl b := by rw [Rep]
theorem rep_int {i : Int} {v : V} : Rep G H (.int i) v ↔ v = .int i := by rw [Rep]
theorem rep_str {s : List Nat} {v : V} : Rep G H (.str s) v ↔ v = .str (tx s) := by rw [Rep]
theorem rep_tup {xs : List D} {v : V} : Rep G H (.tup xs) v ↔ ∃ a vs, v = .ref a ∧ TupAt G.K H a xs vs ∧ Reps G H xs vs := by rw [Rep]
theorem rep_lst {xs : List D} {v : V} : Rep G H (.lst xs) v ↔ ∃ a vs, v = .ref a ∧ H a = some (.lst vs) ∧ Reps G H xs vs := by rw [Rep]
theorem rep_dic {ks : List Ky} {xs : List D} {v : V} : Rep G H (.dic ks xs) v ↔ ∃ a vs, v = .ref a ∧ Rd H a (.dK ((ks.map kyK).zip vs)) ∧ ks.length = vs.length ∧ Reps G H xs vs := by rw [Rep]
theorem rep_dct {ks : List (List Ky)} {xs : List D} {v : V} : Rep G H (.dct ks xs) v ↔ ∃ a vs, v = .ref a ∧ Rd H a (.dT ((ks.map fun k => k.map kyK).zip vs)) ∧ ks.length = vs.length ∧ Reps G H xs vs := by rw [Rep]
theorem rep_obj {c : Nat} {xs : List D} {v : V} : Rep G H (.obj c xs) v ↔ ∃ a dx vs, v = .ref a ∧ H a = some (.ins (G.cls c) dx ((G.nms c).zip vs)) ∧ (G.nms c).length = vs.length ∧ Reps G H xs vs := by rw [Rep]
theorem rep_feed {v : V} : Rep G H .feed v ↔ v = .ref G.fd := by rw [Rep]
theorem reps_nil {vs : List V} : Reps G H [] vs ↔ vs = [] := by rw [Reps]
theorem reps_cons {x : D} {xs : List D} {vs : List V} : Reps G H (x :: xs) vs ↔ ∃ v r, vs = v :: r ∧ Rep G H x v ∧ Reps G H xs r := by rw [Reps]
theorem Reps.nil : Reps G H [] [] := reps_nil.mpr rfl
theorem Reps.cons {x : D} {xs : List D} {v : V} {vs : List V} (h : Rep G H x v) (t : Reps G H xs vs) : Reps G H (x :: xs) (v :: vs) := reps_cons.mpr ⟨v, vs, rfl, h, t⟩
theorem reps_cc {x : D} {xs : List D} {v : V} {vs : List V} : Reps G H (x :: xs) (v :: vs) ↔ Rep G H x v ∧ Reps G H xs vs :=
  ⟨fun h => by obtain ⟨v', r, e, h1, h2⟩ := reps_cons.mp h; cases e; exact ⟨h1, h2⟩, fun h => .cons h.1 h.2⟩
theorem SqT.same {K : PySem.W.Frag} {a : Addr} {xs : List V} (e : Same H H') (h : SqT K H a xs) : SqT K H' a xs := by
  rcases h with (h | ⟨o, h⟩) | h
  · exact .inl (.inl (e _ _ h))
  · exact .inl (.inr ⟨o, e _ _ h⟩)
  · exact .inr h
theorem TupAt.same {K : PySem.W.Frag} {a : Addr} {xs : List D} {vs : List V} (e : Same H H') (h : TupAt K H a xs vs) : TupAt K H' a xs vs := by
  rcases h with h | ⟨h1, h2⟩
  · exact .inl (e _ _ h)
  · exact .inr ⟨h1, SqT.same e h2⟩
theorem TupAt.sq {K : PySem.W.Frag} {a : Addr} {xs : List D} {vs : List V} (h : TupAt K H a xs vs) : SqT K H a vs := by
  rcases h with h | ⟨h1, h2⟩
  · exact SqT.of h
  · exact h2
theorem rd_same {a : Addr} {u : HO} (e : Same H H') (h : Rd H a u) : Rd H' a u := by
  rcases h with h | ⟨o, h⟩
  · exact .inl (e _ _ h)
  · exact .inr ⟨o, e _ _ h⟩
mutual
theorem Rep.same (e : Same H H') : ∀ {d : D} {v : V}, Rep G H d v → Rep G H' d v
  | .non, _, h => rep_non.mpr (rep_non.mp h)
  | .bl _, _, h => rep_bl.mpr (rep_bl.mp h)
  | .int _, _, h => rep_int.mpr (rep_int.mp h)
  | .str _, _, h => rep_str.mpr (rep_str.mp h)
  | .tup _, _, h => let ⟨a, vs, h1, h2, h3⟩ := rep_tup.mp h; rep_tup.mpr ⟨a, vs, h1, TupAt.same e h2, Reps.same e h3⟩
  | .lst _, _, h => let ⟨a, vs, h1, h2, h3⟩ := rep_lst.mp h; rep_lst.mpr ⟨a, vs, h1, e _ _ h2, Reps.same e h3⟩
  | .dic _ _, _, h => let ⟨a, vs, h1, h2, h3, h4⟩ := rep_dic.mp h; rep_dic.mpr ⟨a, vs, h1, rd_same e h2, h3, Reps.same e h4⟩
  | .dct _ _, _, h => let ⟨a, vs, h1, h2, h3, h4⟩ := rep_dct.mp h; rep_dct.mpr ⟨a, vs, h1, rd_same e h2, h3, Reps.same e h4⟩
  | .obj _ _, _, h => let ⟨a, dx, vs, h1, h2, h3, h4⟩ := rep_obj.mp h; rep_obj.mpr ⟨a, dx, vs, h1, e _ _ h2, h3, Reps.same e h4⟩
  | .feed, _, h => rep_feed.mpr (rep_feed.mp h)
theorem Reps.same (e : Same H H') : ∀ {xs : List D} {vs : List V}, Reps G H xs vs → Reps G H' xs vs
  | [], _, h => reps_nil.mpr (reps_nil.mp h)
  | _ :: _, _, h => let ⟨v, r, h1, h2, h3⟩ := reps_cons.mp h; reps_cons.mpr ⟨v, r, h1, Rep.same e h2, Reps.same e h3⟩
end
theorem Reps.length : ∀ {xs : List D} {vs : List V}, Reps G H xs vs → xs.length = vs.length
  | [], vs, h => by rw [reps_nil.mp h]; rfl
  | x :: xs, vs, h => by
    obtain ⟨v, r, rfl, _, h3⟩ := reps_cons.mp h
    rw [List.length_cons, List.length_cons, Reps.length h3]
theorem Reps.get : ∀ {xs : List D} {vs : List V} {i : Nat} {x : D}, Reps G H xs vs → xs[i]? = some x → ∃ v, vs[i]? = some v ∧ Rep G H x v
  | [], _, _, _, _, e => by simp at e
  | y :: ys, vs, 0, x, h, e => by
    obtain ⟨v, r, rfl, h2, h3⟩ := reps_cons.mp h
    simp at e; subst e
    exact ⟨v, rfl, h2⟩
  | y :: ys, vs, i + 1, x, h, e => by
    obtain ⟨v, r, rfl, h2, h3⟩ := reps_cons.mp h
    obtain ⟨u, h4, h5⟩ := Reps.get (i := i) (x := x) h3 (by simpa using e)
    exact ⟨u, by simpa using h4, h5⟩
theorem Reps.get' {xs : List D} {vs : List V} {i : Nat} {v : V} (h : Reps G H xs vs) (e : vs[i]? = some v) : ∃ x, xs[i]? = some x ∧ Rep G H x v := by
  have hi := (List.getElem?_eq_some_iff.mp e).1
  have hi2 : i < xs.length := by rw [h.length]; exact hi
  obtain ⟨u, e2, r⟩ := h.get (List.getElem?_eq_getElem hi2)
  rw [e] at e2; cases e2
  exact ⟨_, List.getElem?_eq_getElem hi2, r⟩
theorem Reps.append : ∀ {xs ys : List D} {vs ws : List V}, Reps G H xs vs → Reps G H ys ws → Reps G H (xs ++ ys) (vs ++ ws)
  | [], ys, vs, ws, h, t => by rw [reps_nil.mp h]; exact t
  | x :: xs, ys, vs, ws, h, t => by
    obtain ⟨v, r, rfl, h2, h3⟩ := reps_cons.mp h
    exact .cons h2 (h3.append t)
theorem Reps.snoc {xs : List D} {vs : List V} {x : D} {v : V} (h : Reps G H xs vs) (r : Rep G H x v) : Reps G H (xs ++ [x]) (vs ++ [v]) := h.append (.cons r .nil)
theorem Reps.take : ∀ (n : Nat) {xs : List D} {vs : List V}, Reps G H xs vs → Reps G H (xs.take n) (vs.take n)
  | 0, _, _, _ => by rw [List.take_zero, List.take_zero]; exact .nil
  | n + 1, [], vs, h => by rw [reps_nil.mp h]; exact .nil
  | n + 1, x :: xs, vs, h => by
    obtain ⟨v, r, rfl, h2, h3⟩ := reps_cons.mp h
    exact .cons h2 (h3.take n)
theorem Reps.drop : ∀ (n : Nat) {xs : List D} {vs : List V}, Reps G H xs vs → Reps G H (xs.drop n) (vs.drop n)
  | 0, _, _, h => by rw [List.drop_zero, List.drop_zero]; exact h
  | n + 1, [], vs, h => by rw [reps_nil.mp h]; exact .nil
  | n + 1, x :: xs, vs, h => by
    obtain ⟨v, r, rfl, h2, h3⟩ := reps_cons.mp h
    exact h3.drop n
theorem Reps.set : ∀ {xs : List D} {vs : List V} (i : Nat) {x : D} {v : V}, Reps G H xs vs → Rep G H x v → Reps G H (xs.set i x) (vs.set i v)
  | [], vs, i, x, v, h, r => by rw [reps_nil.mp h]; exact .nil
  | y :: xs, vs, 0, x, v, h, r => by
    obtain ⟨v', t, rfl, h2, h3⟩ := reps_cons.mp h
    exact .cons r h3
  | y :: xs, vs, i + 1, x, v, h, r => by
    obtain ⟨v', t, rfl, h2, h3⟩ := reps_cons.mp h
    exact .cons h2 (h3.set i r)
theorem Reps.eraseIdx : ∀ {xs : List D} {vs : List V} (i : Nat), Reps G H xs vs → Reps G H (xs.eraseIdx i) (vs.eraseIdx i)
  | [], vs, i, h => by rw [reps_nil.mp h]; exact .nil
  | y :: xs, vs, 0, h => by
    obtain ⟨v', t, rfl, h2, h3⟩ := reps_cons.mp h
    exact h3
  | y :: xs, vs, i + 1, h => by
    obtain ⟨v', t, rfl, h2, h3⟩ := reps_cons.mp h
    exact .cons h2 (h3.eraseIdx i)
theorem Reps.reverse : ∀ {xs : List D} {vs : List V}, Reps G H xs vs → Reps G H xs.reverse vs.reverse
  | [], vs, h => by rw [reps_nil.mp h]; exact .nil
  | x :: xs, vs, h => by
    obtain ⟨v, r, rfl, h2, h3⟩ := reps_cons.mp h
    rw [List.reverse_cons, List.reverse_cons]
    exact h3.reverse.snoc h2
theorem Reps.map_of {α : Type} {f : α → D} {g : α → V} : ∀ {l : List α}, (∀ a ∈ l, Rep G H (f a) (g a)) → Reps G H (l.map f) (l.map g)
  | [], _ => .nil
  | a :: l, h => .cons (h a (List.mem_cons_self)) (Reps.map_of fun b hb => h b (List.mem_cons_of_mem _ hb))
end
/-- a heap without what is off limits -/
def hid (O : Addr → Bool) (H : Hp) : Hp := fun a => if O a = true then none else H a
theorem hid_some {O : Addr → Bool} {H : Hp} {a : Addr} {o : HO} : hid O H a = some o ↔ O a = false ∧ H a = some o := by
  unfold hid
  cases h : O a with
  | true => simp
  | false => simp
theorem hid_of {O : Addr → Bool} {H : Hp} {a : Addr} {o : HO} (h1 : O a = false) (h2 : H a = some o) : hid O H a = some o := hid_some.mpr ⟨h1, h2⟩
theorem hid_le {O : Addr → Bool} {H : Hp} : Same (hid O H) H := fun _ _ h => (hid_some.mp h).2
theorem hid_mono {O O' : Addr → Bool} {H : Hp} (h : ∀ a, O' a = true → O a = true) : Same (hid O H) (hid O' H) := fun b o e => by
  obtain ⟨e1, e2⟩ := hid_some.mp e
  refine hid_of ?_ e2
  cases q : O' b with
  | false => rfl
  | true => rw [h b q] at e1; cases e1
/-- one more address off limits; one less -/
def offO (O : Addr → Bool) (p : Addr) : Addr → Bool := fun a => if a = p then true else O a
def onO (O : Addr → Bool) (p : Addr) : Addr → Bool := fun a => if a = p then false else O a
theorem offO_self {O : Addr → Bool} {p : Addr} : offO O p p = true := by unfold offO; rw [if_pos rfl]
theorem offO_ne {O : Addr → Bool} {p a : Addr} (h : a ≠ p) : offO O p a = O a := by unfold offO; rw [if_neg h]
theorem offO_le {O : Addr → Bool} {p a : Addr} (h : O a = true) : offO O p a = true := by
  by_cases e : a = p
  · rw [e]; exact offO_self
  · rw [offO_ne e]; exact h
theorem onO_self {O : Addr → Bool} {p : Addr} : onO O p p = false := by unfold onO; rw [if_pos rfl]
theorem onO_ne {O : Addr → Bool} {p a : Addr} (h : a ≠ p) : onO O p a = O a := by unfold onO; rw [if_neg h]
theorem onO_le {O : Addr → Bool} {p a : Addr} (h : onO O p a = true) : O a = true := by
  by_cases e : a = p
  · rw [e, onO_self] at h; cases h
  · rw [onO_ne e] at h; exact h
/-- a new object, off limits -/
theorem hid_off_new {O : Addr → Bool} {H : Hp} {p : Addr} {o : HO} (h : H p = none) : Same (hid O H) (hid (offO O p) (upd H p o)) := fun b u e => by
  obtain ⟨h1, h2⟩ := hid_some.mp e
  have hb : b ≠ p := ne_of_none h2 h
  exact hid_of (by rw [offO_ne hb]; exact h1) (by rw [upd_ne hb]; exact h2)
theorem hid_new {O : Addr → Bool} {H : Hp} {p : Addr} {o : HO} (h : H p = none) : Same (hid O H) (hid O (upd H p o)) := fun b u e => by
  obtain ⟨h1, h2⟩ := hid_some.mp e
  exact hid_of h1 (by rw [upd_ne (ne_of_none h2 h)]; exact h2)
/-- what is off limits changes -/
theorem hid_upd {O : Addr → Bool} {H : Hp} {p : Addr} {o : HO} (h : O p = true) : hid O (upd H p o) = hid O H := by
  funext b
  unfold hid
  by_cases e : b = p
  · rw [e, h]; rfl
  · rw [upd_ne e]
/-- the heap's feed -/
def FeedN (G : Gr) (n : Nat) (H : Hp) : Prop := ∃ cs, FeedAt H G.fd G.fl cs n
structure Gd (G : Gr) (O : Addr → Bool) (n : Nat) (H : Hp) : Prop where
  feed : FeedN G n H
  ofd : O G.fd = true
  alc : ∀ a, O a = true → H a ≠ none
/-- all but the feed is as it was -/
structure Ex (G : Gr) (n : Nat) (H H' : Hp) : Prop where
  keep : ∀ b o, b ≠ G.fd → H b = some o → H' b = some o
  feed : FeedN G n H'
section
variable {G : Gr} {O O' : Addr → Bool} {n m : Nat} {H H1 H2 : Hp}
theorem FeedN.at (h : FeedN G n H) : ∃ o, H G.fd = some o := by
  obtain ⟨cs, ⟨a, f, _, e⟩, _, _⟩ := h
  exact ⟨_, e⟩
theorem Gd.ex (g : Gd G O n H) (e : Ex G m H H1) : Gd G O m H1 := by
  refine ⟨e.feed, g.ofd, fun a ha z => ?_⟩
  by_cases hf : a = G.fd
  · obtain ⟨o, ho⟩ := e.feed.at
    rw [hf, ho] at z; cases z
  · have h0 := g.alc a ha
    cases q : H a with
    | none => exact h0 q
    | some o =>
      rw [e.keep a o hf q] at z; cases z
theorem Ex.refl (h : FeedN G n H) : Ex G n H H := ⟨fun _ _ _ h => h, h⟩
theorem Gd.rfl (g : Gd G O n H) : Ex G n H H := Ex.refl g.feed
theorem Ex.trans (x : Ex G n H H1) (y : Ex G m H1 H2) : Ex G m H H2 := ⟨fun b o h e => y.keep b o h (x.keep b o h e), y.feed⟩
theorem Gd.same (g : Gd G O n H) (s : Same H H1) : Ex G n H H1 := ⟨fun b o _ e => s b o e, by obtain ⟨cs, h⟩ := g.feed; exact ⟨cs, h.same s⟩⟩
theorem Gd.new (g : Gd G O n H) {p : Addr} {o : HO} (h : H p = none) : Ex G n H (upd H p o) := g.same (same_new h)
theorem Gd.nf (g : Gd G O n H) {a : Addr} (h : O a = false) : a ≠ G.fd := fun e => by rw [e, g.ofd] at h; cases h
theorem Gd.hid (g : Gd G O n H) (e : Ex G m H H1) : Same (hid O H) (hid O H1) := fun b o h => by
  obtain ⟨h1, h2⟩ := hid_some.mp h
  exact hid_of h1 (e.keep b o (g.nf h1) h2)
theorem Gd.off (g : Gd G O n H) {p : Addr} (h : H p = none) : O p = false := by
  cases q : O p with
  | false => exact _root_.rfl
  | true => exact absurd h (g.alc p q)
theorem Gd.rep (g : Gd G O n H) (e : Ex G m H H1) {d : D} {v : V} (h : Rep G (Pu.hid O H) d v) : Rep G (Pu.hid O H1) d v := h.same (g.hid e)
theorem Gd.reps (g : Gd G O n H) (e : Ex G m H H1) {d : List D} {v : List V} (h : Reps G (Pu.hid O H) d v) : Reps G (Pu.hid O H1) d v := h.same (g.hid e)
end
end Pu
set_option Elab.async false
set_option linter.all false
set_option maxRecDepth 100000
set_option maxHeartbeats 4000000
namespace Pu
open PySem PySem.Spec PyProof.Rows L2 Fd Tx
/-- the standing part of the ground -/
structure Sa where
  K : PySem.W.Frag
  cls : Nat → Addr
  nms : Nat → List Str
abbrev Sa.gr (S : Sa) (fd fl : Addr) : Gr := ⟨S.K, S.cls, S.nms, fd, fl⟩
/-- a slot: nothing, a datum, a datum of one's own (a list, dict, object that may be changed) -/
inductive Sl where
  | no | fz (d : D) | ow (d : D)
abbrev En := List Sl
def getS (ρ : En) (i : Nat) : Option D := match ρ[i]? with
  | some (.fz d) => some d
  | _ => none
def getW (ρ : En) (i : Nat) : Option D := match ρ[i]? with
  | some (.fz d) => some d
  | some (.ow d) => some d
  | _ => none
/-- what stands at an address of one's own -/
def RepO (G : Gr) (O : Addr → Bool) (H : Hp) (p : Addr) : D → Prop
  | .lst xs => ∃ vs, H p = some (.lst vs) ∧ Reps G (hid O H) xs vs
  | .dic ks xs => ∃ vs, H p = some (.dK ((ks.map kyK).zip vs)) ∧ ks.length = vs.length ∧ Reps G (hid O H) xs vs
  | .dct ks xs => ∃ vs, H p = some (.dT ((ks.map fun k => k.map kyK).zip vs)) ∧ ks.length = vs.length ∧ Reps G (hid O H) xs vs
  | .obj c xs => ∃ dx vs, H p = some (.ins (G.cls c) dx ((G.nms c).zip vs)) ∧ vs.length ≤ (G.nms c).length ∧ Reps G (hid O H) xs vs
  | _ => False
def RepW (G : Gr) (O : Addr → Bool) (H : Hp) (d : D) (v : V) : Prop := Rep G (hid O H) d v ∨ ∃ p, v = .ref p ∧ O p = true ∧ p ≠ G.fd ∧ RepO G O H p d ∧ (∀ c xs, d ≠ .obj c xs)
structure EG (G : Gr) (O : Addr → Bool) (ρ : En) (n : Nat) (σ : L2.St) (H : Hp) : Prop where
  gd : Gd G O n H
  len : ρ.length = σ.length
  fz : ∀ (i : Nat) (d : D), ρ[i]? = some (.fz d) → ∃ v, σ[i]? = some (some v) ∧ Rep G (hid O H) d v
  ow : ∀ (i : Nat) (d : D), ρ[i]? = some (.ow d) → ∃ p, σ[i]? = some (some (.ref p)) ∧ O p = true ∧ p ≠ G.fd ∧ RepO G O H p d
section
variable {G : Gr} {O : Addr → Bool} {ρ : En} {n m : Nat} {σ : L2.St} {H H' : Hp}
theorem RepO.ex (g : Gd G O n H) (e : Ex G m H H') {p : Addr} (hp : p ≠ G.fd) : ∀ {d : D}, RepO G O H p d → RepO G O H' p d
  | .lst xs, ⟨vs, h1, h2⟩ => ⟨vs, e.keep _ _ hp h1, g.reps e h2⟩
  | .dic ks xs, ⟨vs, h1, h2, h3⟩ => ⟨vs, e.keep _ _ hp h1, h2, g.reps e h3⟩
  | .dct ks xs, ⟨vs, h1, h2, h3⟩ => ⟨vs, e.keep _ _ hp h1, h2, g.reps e h3⟩
  | .obj c xs, ⟨dx, vs, h1, h2, h3⟩ => ⟨dx, vs, e.keep _ _ hp h1, h2, g.reps e h3⟩
  | .non, h => h
  | .bl _, h => h
  | .int _, h => h
  | .str _, h => h
  | .tup _, h => h
  | .feed, h => h
theorem RepW.ex (g : Gd G O n H) (e : Ex G m H H') {d : D} {v : V} (h : RepW G O H d v) : RepW G O H' d v := by
  rcases h with h | ⟨p, h1, h2, h3, h4, h5⟩
  · exact .inl (g.rep e h)
  · exact .inr ⟨p, h1, h2, h3, h4.ex g e h3, h5⟩
theorem EG.ex (g : EG G O ρ n σ H) (e : Ex G m H H') : EG G O ρ m σ H' := by
  refine ⟨g.gd.ex e, g.len, fun i d h => ?_, fun i d h => ?_⟩
  · obtain ⟨v, h1, h2⟩ := g.fz i d h
    exact ⟨v, h1, g.gd.rep e h2⟩
  · obtain ⟨p, h1, h2, h3, h4⟩ := g.ow i d h
    exact ⟨p, h1, h2, h3, h4.ex g.gd e h3⟩
/-- what is seen of a weak datum, by its kind -/
theorem RepW.lst {xs : List D} {v : V} (h : RepW G O H (.lst xs) v) : ∃ a vs, v = .ref a ∧ H a = some (.lst vs) ∧ Reps G (hid O H) xs vs := by
  rcases h with h | ⟨p, h1, h2, h3, ⟨vs, h4, h5⟩, _⟩
  · obtain ⟨a, vs, h1, h2, h3⟩ := rep_lst.mp h
    exact ⟨a, vs, h1, hid_le _ _ h2, h3⟩
  · exact ⟨p, vs, h1, h4, h5⟩
theorem RepW.tup {xs : List D} {v : V} (h : RepW G O H (.tup xs) v) : ∃ a vs, v = .ref a ∧ SqT G.K H a vs ∧ Reps G (hid O H) xs vs := by
  rcases h with h | ⟨p, _, _, _, h4, _⟩
  · obtain ⟨a, vs, h1, h2, h3⟩ := rep_tup.mp h
    exact ⟨a, vs, h1, SqT.same hid_le h2.sq, h3⟩
  · exact h4.elim
theorem RepW.tupP {xs : List D} {v : V} (h : RepW G O H (.tup xs) v) (hs : allS xs = false) : ∃ a vs, v = .ref a ∧ H a = some (.tup vs) ∧ Reps G (hid O H) xs vs := by
  rcases h with h | ⟨p, _, _, _, h4, _⟩
  · obtain ⟨a, vs, h1, h2, h3⟩ := rep_tup.mp h
    rcases h2 with h2 | ⟨h2, _⟩
    · exact ⟨a, vs, h1, hid_le _ _ h2, h3⟩
    · rw [hs] at h2; cases h2
  · exact h4.elim
theorem RepW.int {i : Int} {v : V} (h : RepW G O H (.int i) v) : v = .int i := by
  rcases h with h | ⟨p, _, _, _, h4, _⟩
  · exact rep_int.mp h
  · exact h4.elim
theorem RepW.bl {b : Bool} {v : V} (h : RepW G O H (.bl b) v) : v = .bl b := by
  rcases h with h | ⟨p, _, _, _, h4, _⟩
  · exact rep_bl.mp h
  · exact h4.elim
theorem RepW.non {v : V} (h : RepW G O H .non v) : v = .non := by
  rcases h with h | ⟨p, _, _, _, h4, _⟩
  · exact rep_non.mp h
  · exact h4.elim
theorem RepW.str {s : List Nat} {v : V} (h : RepW G O H (.str s) v) : v = .str (tx s) := by
  rcases h with h | ⟨p, _, _, _, h4, _⟩
  · exact rep_str.mp h
  · exact h4.elim
theorem RepW.feed {v : V} (h : RepW G O H .feed v) : v = .ref G.fd := by
  rcases h with h | ⟨p, _, _, _, h4, _⟩
  · exact rep_feed.mp h
  · exact h4.elim
theorem RepW.dic {ks : List Ky} {xs : List D} {v : V} (h : RepW G O H (.dic ks xs) v) : ∃ a vs, v = .ref a ∧ Rd H a (.dK ((ks.map kyK).zip vs)) ∧ ks.length = vs.length ∧ Reps G (hid O H) xs vs := by
  rcases h with h | ⟨p, h1, h2, h3, ⟨vs, h4, h5, h6⟩, _⟩
  · obtain ⟨a, vs, h1, h2, h3, h4⟩ := rep_dic.mp h
    exact ⟨a, vs, h1, rd_same hid_le h2, h3, h4⟩
  · exact ⟨p, vs, h1, Rd.of h4, h5, h6⟩
theorem RepW.dct {ks : List (List Ky)} {xs : List D} {v : V} (h : RepW G O H (.dct ks xs) v) : ∃ a vs, v = .ref a ∧ Rd H a (.dT ((ks.map fun k => k.map kyK).zip vs)) ∧ ks.length = vs.length ∧ Reps G (hid O H) xs vs := by
  rcases h with h | ⟨p, h1, h2, h3, ⟨vs, h4, h5, h6⟩, _⟩
  · obtain ⟨a, vs, h1, h2, h3, h4⟩ := rep_dct.mp h
    exact ⟨a, vs, h1, rd_same hid_le h2, h3, h4⟩
  · exact ⟨p, vs, h1, Rd.of h4, h5, h6⟩
theorem RepW.obj {c : Nat} {xs : List D} {v : V} (h : RepW G O H (.obj c xs) v) : ∃ a dx vs, v = .ref a ∧ H a = some (.ins (G.cls c) dx ((G.nms c).zip vs)) ∧ (G.nms c).length = vs.length ∧ Reps G (hid O H) xs vs := by
  rcases h with h | ⟨p, h1, h2, h3, _, h5⟩
  · obtain ⟨a, dx, vs, h1, h2, h3, h4⟩ := rep_obj.mp h
    exact ⟨a, dx, vs, h1, hid_le _ _ h2, h3, h4⟩
  · exact absurd rfl (h5 c xs)
theorem RepW.ref {d : D} {a : Addr} (h : RepW G O H d (.ref a)) : (∃ xs, d = .tup xs) ∨ (∃ xs, d = .lst xs) ∨ (∃ ks xs, d = .dic ks xs) ∨ (∃ ks xs, d = .dct ks xs) ∨ (∃ c xs, d = .obj c xs) ∨ d = .feed := by
  cases d with
  | non => exact nomatch h.non
  | bl b => exact nomatch h.bl
  | int i => exact nomatch h.int
  | str s => exact nomatch h.str
  | tup xs => exact .inl ⟨xs, rfl⟩
  | lst xs => exact .inr (.inl ⟨xs, rfl⟩)
  | dic ks xs => exact .inr (.inr (.inl ⟨ks, xs, rfl⟩))
  | dct ks xs => exact .inr (.inr (.inr (.inl ⟨ks, xs, rfl⟩)))
  | obj c xs => exact .inr (.inr (.inr (.inr (.inl ⟨c, xs, rfl⟩))))
  | feed => exact .inr (.inr (.inr (.inr (.inr rfl))))
end
/-! ### readings -/
abbrev EX := En → M D
abbrev NoX : Xn → Nat → Prop := fun _ _ => False
def tS (S : Sa) (f : EX) : TE := fun σ H Q => ∃ fd fl O ρ n R, EG (S.gr fd fl) O ρ n σ H ∧ f ρ n R NoX ∧ ∀ d n' v H', R d n' → Ex (S.gr fd fl) n' H H' → Rep (S.gr fd fl) (hid O H') d v → Q v H'
def tW (S : Sa) (f : EX) : TE := fun σ H Q => ∃ fd fl O ρ n R, EG (S.gr fd fl) O ρ n σ H ∧ f ρ n R NoX ∧ ∀ d n' v H', R d n' → Ex (S.gr fd fl) n' H H' → RepW (S.gr fd fl) O H' d v → Q v H'
/-- a new object at p, nothing else holds it -/
def tF (S : Sa) (f : EX) : TE := fun σ H Q => ∃ fd fl O ρ n R, EG (S.gr fd fl) O ρ n σ H ∧ f ρ n R NoX ∧ ∀ d n' p H', R d n' → Ex (S.gr fd fl) n' H H' → H p = none → p ≠ fd → RepO (S.gr fd fl) (offO O p) H' p d → (∀ c xs, d ≠ .obj c xs) → Q (.ref p) H'
def tB (S : Sa) (f : En → M Bool) : TT := fun σ H Q => ∃ fd fl O ρ n R, EG (S.gr fd fl) O ρ n σ H ∧ f ρ n R NoX ∧ ∀ b n' H', R b n' → Ex (S.gr fd fl) n' H H' → Q b H'
def tAs (S : Sa) (k : Nat) (f : En → M (List D)) : TA := fun σ H Q => ∃ fd fl O ρ n R, EG (S.gr fd fl) O ρ n σ H ∧ f ρ n R NoX ∧ ∀ ds n' vs H', R ds n' → ds.length = k → Ex (S.gr fd fl) n' H H' → Reps (S.gr fd fl) (hid O H') ds vs → Q vs H'
section
variable {X : Cx} {S : Sa} {e : Expr} {f : EX}
theorem pem {t t' : TE} (h : PE X e t) (hm : ∀ σ H Q, t' σ H Q → t σ H Q) : PE X e t' := ⟨fun pins s σ H Q I q => h.run pins s σ H Q I (hm σ H Q q)⟩
theorem ptm {t t' : TT} (h : PT X e t) (hm : ∀ σ H Q, t' σ H Q → t σ H Q) : PT X e t' := ⟨fun pins s σ H Q I q => h.run pins s σ H Q I (hm σ H Q q)⟩
theorem pam {es : List Expr} {t t' : TA} (h : PA X es t) (hm : ∀ σ H Q, t' σ H Q → t σ H Q) : PA X es t' := ⟨fun pos pins s σ H Q I q => h.run pos pins s σ H Q I (hm σ H Q q)⟩
/-- strong is weak -/
theorem sw (h : PE X e (tS S f)) : PE X e (tW S f) := pem h fun σ H Q ⟨fd, fl, O, ρ, n, R, eg, hf, hq⟩ => ⟨fd, fl, O, ρ, n, R, eg, hf, fun d n' v H' r ex rp => hq d n' v H' r ex (.inl rp)⟩
theorem RepO.rep {G : Gr} {O : Addr → Bool} {H' : Hp} {p : Addr} (hp : O p = false) : ∀ {d : D}, RepO G (offO O p) H' p d → (∀ c xs, d ≠ .obj c xs) → Rep G (hid O H') d (.ref p) := by
  have hm : Same (hid (offO O p) H') (hid O H') := hid_mono fun a h => offO_le h
  intro d h ho
  cases d with
  | lst xs => obtain ⟨vs, h1, h2⟩ := h; exact rep_lst.mpr ⟨p, vs, rfl, hid_of hp h1, h2.same hm⟩
  | dic ks xs => obtain ⟨vs, h1, h2, h3⟩ := h; exact rep_dic.mpr ⟨p, vs, rfl, Rd.of (hid_of hp h1), h2, h3.same hm⟩
  | dct ks xs => obtain ⟨vs, h1, h2, h3⟩ := h; exact rep_dct.mpr ⟨p, vs, rfl, Rd.of (hid_of hp h1), h2, h3.same hm⟩
  | obj c xs => exact absurd rfl (ho c xs)
  | non => exact h.elim
  | bl _ => exact h.elim
  | int _ => exact h.elim
  | str _ => exact h.elim
  | tup _ => exact h.elim
  | feed => exact h.elim
/-- fresh is strong -/
theorem fs (h : PE X e (tF S f)) : PE X e (tS S f) := pem h fun σ H Q ⟨fd, fl, O, ρ, n, R, eg, hf, hq⟩ => ⟨fd, fl, O, ρ, n, R, eg, hf, fun d n' p H' r ex hn hp rp ho => hq d n' _ H' r ex (rp.rep (eg.gd.off hn) ho)⟩
/-- sizes of lists and tuples -/
def SzOk (K : PySem.W.Frag) (H : Hp) : Prop := ∀ a xs, (SqL K H a xs ∨ SqT K H a xs) → xs.length ≤ sizeLine
theorem inv_szok {pins : List (Addr × Obj)} {σ : L2.St} {H : Hp} {s : Shared} (I : Inv X pins σ H s) : SzOk X.K H := fun a xs h => by
  rcases h with h | h
  · obtain ⟨_, _, _, z⟩ := I.list h
    exact z
  · obtain ⟨_, _, _, z⟩ := I.tuple h
    exact z
theorem pesz {t : TE} (h : PE X e t) : PE X e (fun σ H Q => SzOk X.K H → t σ H fun v H' => SzOk X.K H' → Q v H') := ⟨fun pins s σ H Q I q =>
  thn (h.run pins s σ H _ I (q (inv_szok I))) fun u s' ⟨v, H', I', r, q'⟩ => ⟨v, H', I', r, q' (inv_szok I')⟩⟩
end
/-! ### names, constants -/
def xN (i : Nat) : EX := fun ρ => lft (getS ρ i)
def xNw (i : Nat) : EX := fun ρ => lft (getW ρ i)
def xC (d : D) : EX := fun _ => ret d
section
variable {X : Cx} {S : Sa}
theorem getS_some {ρ : En} {i : Nat} {d : D} (h : getS ρ i = some d) : ρ[i]? = some (.fz d) := by
  unfold getS at h
  split at h
  · rename_i e; cases h; exact e
  · cases h
theorem getW_some {ρ : En} {i : Nat} {d : D} (h : getW ρ i = some d) : ρ[i]? = some (.fz d) ∨ ρ[i]? = some (.ow d) := by
  unfold getW at h
  split at h
  · rename_i e; cases h; exact .inl e
  · rename_i e; cases h; exact .inr e
  · cases h
theorem lft_iff {α : Type} {o : Option α} {n : Nat} {Q : α → Nat → Prop} {E : Xn → Nat → Prop} (h : lft o n Q E) : ∃ a, o = some a ∧ Q a n := by
  cases o with
  | none => exact h.elim
  | some a => exact ⟨a, rfl, h⟩
theorem xn {i : Nat} {x : Str} {pos : Pos} (h : PE X (.Name x pos) (tVar i)) : PE X (.Name x pos) (tS S (xN i)) := pem h fun σ H Q ⟨fd, fl, O, ρ, n, R, eg, hf, hq⟩ => by
  obtain ⟨d, e, r⟩ := lft_iff hf
  obtain ⟨v, h1, h2⟩ := eg.fz i d (getS_some e)
  exact ⟨v, h1, hq d n v H r eg.gd.rfl h2⟩
/-- objects of one's own are read by their fields alone -/
def notObj : D → Option D
  | .obj _ _ => none
  | d => some d
theorem notObj_some {d e : D} (h : notObj d = some e) : e = d ∧ ∀ c xs, d ≠ .obj c xs := by
  cases d <;> first | (cases h; exact ⟨rfl, fun _ _ z => nomatch z⟩) | cases h
def getV (ρ : En) (i : Nat) : Option D := match ρ[i]? with
  | some (.fz d) => some d
  | some (.ow d) => notObj d
  | _ => none
def xV (i : Nat) : EX := fun ρ => lft (getV ρ i)
theorem xv {i : Nat} {x : Str} {pos : Pos} (h : PE X (.Name x pos) (tVar i)) : PE X (.Name x pos) (tW S (xV i)) := pem h fun σ H Q ⟨fd, fl, O, ρ, n, R, eg, hf, hq⟩ => by
  obtain ⟨d, e, r⟩ := lft_iff hf
  unfold getV at e
  split at e
  · rename_i d' e'
    cases e
    obtain ⟨v, h1, h2⟩ := eg.fz i d e'
    exact ⟨v, h1, hq d n v H r eg.gd.rfl (.inl h2)⟩
  · rename_i d' e'
    obtain ⟨rfl, hno⟩ := notObj_some e
    obtain ⟨p, h1, h2, h3, h4⟩ := eg.ow i d e'
    exact ⟨_, h1, hq d n _ H r eg.gd.rfl (.inr ⟨p, rfl, h2, h3, h4, hno⟩)⟩
  · cases e
theorem xc {e : Expr} {v : V} {d : D} (h : PE X e (tC v)) (hr : ∀ fd fl H, Rep (S.gr fd fl) H d v) : PE X e (tS S (xC d)) := pem h fun σ H Q ⟨fd, fl, O, ρ, n, R, eg, hf, hq⟩ => hq d n v H hf eg.gd.rfl (hr _ _ _)
theorem xint {i j pos} : PE X (.Constant (.int i) j pos) (tS S (xC (.int i))) := xc pe_int fun _ _ _ => rep_int.mpr rfl
theorem xbl {b j pos} : PE X (.Constant (.bool b) j pos) (tS S (xC (.bl b))) := xc pe_bl fun _ _ _ => rep_bl.mpr rfl
theorem xnon {j pos} : PE X (.Constant .none j pos) (tS S (xC .non)) := xc pe_non fun _ _ _ => rep_non.mpr rfl
theorem xstr {x : Str} {j pos} (cs : List Nat) (h : x = tx cs) : PE X (.Constant (.str x) j pos) (tS S (xC (.str cs))) := xc pe_str fun _ _ _ => rep_str.mpr (by rw [h])
end
/-! ### operators -/
abbrev NX2 := fun (_ : D) (_ : Nat) => False
def xBin (op : D → D → Option D) (a b : EX) : EX := fun ρ => bnd (a ρ) fun x => bnd (b ρ) fun y => lft (op x y)
def xUn (op : D → Option D) (a : EX) : EX := fun ρ => bnd (a ρ) fun x => lft (op x)
/-- an operation on data, by values -/
def rD2 (S : Sa) (op : D → D → Option D) : R2 := fun x y H Q => ∃ fd fl O n dx dy r, Gd (S.gr fd fl) O n H ∧ RepW (S.gr fd fl) O H dx x ∧ RepW (S.gr fd fl) O H dy y ∧ op dx dy = some r ∧ ∀ v H', Ex (S.gr fd fl) n H H' → Rep (S.gr fd fl) (hid O H') r v → Q v H'
def rD1 (S : Sa) (op : D → Option D) : V → Hp → VK → Prop := fun x H Q => ∃ fd fl O n dx r, Gd (S.gr fd fl) O n H ∧ RepW (S.gr fd fl) O H dx x ∧ op dx = some r ∧ ∀ v H', Ex (S.gr fd fl) n H H' → Rep (S.gr fd fl) (hid O H') r v → Q v H'
section
variable {X : Cx} {S : Sa} {a b : Expr} {fa fb : EX} {pos : Pos}
theorem two {op : D → D → Option D} : ∀ σ H Q, tS S (xBin op fa fb) σ H Q → tOp (rD2 S op) (tW S fa) (tW S fb) σ H Q := fun σ H Q ⟨fd, fl, O, ρ, n, R, eg, hf, hq⟩ =>
  ⟨fd, fl, O, ρ, n, _, eg, hf, fun d1 n1 v1 H1 r1 ex1 w1 => ⟨fd, fl, O, ρ, n1, _, eg.ex ex1, r1, fun d2 n2 v2 H2 r2 ex2 w2 => by
    obtain ⟨r, e, hr⟩ := lft_iff r2
    exact ⟨fd, fl, O, n2, d1, d2, r, (eg.gd.ex ex1).ex ex2, w1.ex (eg.gd.ex ex1) ex2, w2, e, fun v H' ex rp => hq r n2 v H' hr ((ex1.trans ex2).trans ex) rp⟩⟩⟩
theorem one {op : D → Option D} : ∀ σ H Q, tS S (xUn op fa) σ H Q → tUn (rD1 S op) (tW S fa) σ H Q := fun σ H Q ⟨fd, fl, O, ρ, n, R, eg, hf, hq⟩ =>
  ⟨fd, fl, O, ρ, n, _, eg, hf, fun d1 n1 v1 H1 r1 ex1 w1 => by
    obtain ⟨r, e, hr⟩ := lft_iff r1
    exact ⟨fd, fl, O, n1, d1, r, eg.gd.ex ex1, w1, e, fun v H' ex rp => hq r n1 v H' hr (ex1.trans ex) rp⟩⟩
theorem xbin {o : Operator} {op : D → D → Option D} (ho : OpR X (binaryOp o) (rD2 S op)) (ha : PE X a (tW S fa)) (hb : PE X b (tW S fb)) : PE X (.BinOp a o b pos) (tS S (xBin op fa fb)) := pem (pe_op ho ha hb) two
theorem xun {o : UnaryOp} {op : D → Option D} (ho : UnR X (unaryOp o) (rD1 S op)) (ha : PE X a (tW S fa)) : PE X (.UnaryOp o a pos) (tS S (xUn op fa)) := pem (pe_un ho ha) one
end
end Pu
set_option Elab.async false
set_option linter.all false
set_option maxRecDepth 100000
set_option maxHeartbeats 4000000
namespace Pu
open PySem PySem.Spec PyProof.Rows L2 Fd Tx
/-! ### data as the library's data -/
mutual
def toP : D → PyData
  | .non => .none
  | .bl b => .bool b
  | .int i => .int i
  | .str s => .str (tx s)
  | .tup xs => .tuple (toPs xs)
  | .lst xs => .list (toPs xs)
  | .dic _ _ => .none
  | .dct _ _ => .none
  | .obj _ _ => .none
  | .feed => .none
def toPs : List D → List PyData
  | [] => []
  | x :: xs => toP x :: toPs xs
end
def cpsOk (s : List Nat) : Bool := s.all fun c => decide (c < 1000)
/-- plain data, at most k deep -/
def plN : Nat → D → Bool
  | _, .non => true
  | _, .bl _ => true
  | _, .int _ => true
  | _, .str s => cpsOk s
  | k + 1, .tup xs => xs.all (plN k)
  | k + 1, .lst xs => xs.all (plN k)
  | _, _ => false
abbrev plD (d : D) : Bool := plN 12 d
mutual
def eqB : D → D → Bool
  | .non, .non => true
  | .bl a, .bl b => a == b
  | .bl a, .int b => (if a then 1 else 0) == b
  | .int a, .bl b => a == (if b then 1 else 0)
  | .int a, .int b => a == b
  | .str a, .str b => a == b
  | .tup a, .tup b => eqBs a b
  | .lst a, .lst b => eqBs a b
  | _, _ => false
def eqBs : List D → List D → Bool
  | [], [] => true
  | x :: xs, y :: ys => eqB x y && eqBs xs ys
  | _, _ => false
end
theorem toPs_map (xs : List D) : toPs xs = xs.map toP := by
  induction xs with
  | nil => rw [toPs]; rfl
  | cons x xs ih => rw [toPs, ih]; rfl
theorem plN_lay : ∀ (k : Nat) (d : D), plN k d = true → (toP d).canLay0 = true ∧ (toP d).depth ≤ k
  | k, .non, _ => by rw [toP]; exact ⟨rfl, Nat.zero_le _⟩
  | k, .bl _, _ => by rw [toP]; exact ⟨rfl, Nat.zero_le _⟩
  | k, .int _, _ => by rw [toP]; exact ⟨rfl, Nat.zero_le _⟩
  | k, .str s, h => by
    rw [toP]
    refine ⟨?_, Nat.zero_le _⟩
    have h' : cpsOk s = true := by cases k <;> exact h
    show PyData.strOk (tx s) = true
    unfold PyData.strOk tx
    unfold cpsOk at h'
    rw [List.all_eq_true] at h'
    show s.toArray.all (fun x => decide (x < 0x110000)) = true
    rw [List.all_toArray, List.all_eq_true]
    intro c hc
    have := of_decide_eq_true (h' c hc)
    exact decide_eq_true (by omega)
  | 0, .tup _, h => by cases h
  | 0, .lst _, h => by cases h
  | k + 1, .tup xs, h => by
    have h' : xs.all (plN k) = true := h
    rw [toP]
    have key : ∀ ys : List D, ys.all (plN k) = true → PyData.canLayAll0 (toPs ys) = true ∧ PyData.depthAll (toPs ys) ≤ k := by
      intro ys
      induction ys with
      | nil => intro _; rw [toPs]; exact ⟨rfl, Nat.zero_le _⟩
      | cons y ys ih =>
        intro hy
        rw [List.all_cons, Bool.and_eq_true] at hy
        obtain ⟨i1, i2⟩ := ih hy.2
        obtain ⟨j1, j2⟩ := plN_lay k y hy.1
        rw [toPs, PyData.canLayAll0, PyData.depthAll]
        exact ⟨by rw [j1, i1]; rfl, Nat.max_le.mpr ⟨j2, i2⟩⟩
    obtain ⟨i1, i2⟩ := key xs h'
    rw [PyData.canLay0, PyData.depth]
    exact ⟨i1, by omega⟩
  | k + 1, .lst xs, h => by
    have h' : xs.all (plN k) = true := h
    rw [toP]
    have key : ∀ ys : List D, ys.all (plN k) = true → PyData.canLayAll0 (toPs ys) = true ∧ PyData.depthAll (toPs ys) ≤ k := by
      intro ys
      induction ys with
      | nil => intro _; rw [toPs]; exact ⟨rfl, Nat.zero_le _⟩
      | cons y ys ih =>
        intro hy
        rw [List.all_cons, Bool.and_eq_true] at hy
        obtain ⟨i1, i2⟩ := ih hy.2
        obtain ⟨j1, j2⟩ := plN_lay k y hy.1
        rw [toPs, PyData.canLayAll0, PyData.depthAll]
        exact ⟨by rw [j1, i1]; rfl, Nat.max_le.mpr ⟨j2, i2⟩⟩
    obtain ⟨i1, i2⟩ := key xs h'
    rw [PyData.canLay0, PyData.depth]
    exact ⟨i1, by omega⟩
  | k, .dic _ _, h => by cases k <;> cases h
  | k, .dct _ _, h => by cases k <;> cases h
  | k, .obj _ _, h => by cases k <;> cases h
  | k, .feed, h => by cases k <;> cases h
theorem plD_shaped {d : D} (h : plD d = true) : SeqAt.shaped (toP d) = true := by
  obtain ⟨h1, h2⟩ := plN_lay 12 d h
  unfold SeqAt.shaped
  rw [h1, decide_eq_true (show (toP d).depth ≤ 64 by omega)]
  rfl
/-- no bool within -/
theorem tx_beq (a b : List Nat) : (tx a == tx b) = (a == b) := by
  rw [Bool.eq_iff_iff, beq_iff_eq, beq_iff_eq]
  exact ⟨tx_inj, fun h => by rw [h]⟩
mutual
theorem eqB_eqv : ∀ (k j : Nat) (d e : D), plN k d = true → plN j e = true → eqB d e = PyData.eqv (toP d) (toP e)
  | k, j, .non, e, hd, he => by cases e <;> simp only [toP, eqB, PyData.eqv] <;> (cases j <;> cases he)
  | k, j, .bl _, e, hd, he => by cases e <;> simp only [toP, eqB, PyData.eqv] <;> (cases j <;> cases he)
  | k, j, .int _, e, hd, he => by cases e <;> simp only [toP, eqB, PyData.eqv] <;> (cases j <;> cases he)
  | k, j, .str s, e, hd, he => by
    cases e with
    | str t => simp only [toP, eqB, PyData.eqv]; exact (tx_beq s t).symm
    | _ => simp only [toP, eqB, PyData.eqv] <;> (cases j <;> cases he)
  | 0, j, .tup xs, e, hd, he => by cases hd
  | 0, j, .lst xs, e, hd, he => by cases hd
  | k + 1, j, .tup xs, e, hd, he => by
    cases e with
    | tup ys =>
      cases j with
      | zero => cases he
      | succ j =>
        simp only [toP, eqB, PyData.eqv]
        exact eqBs_eqv k j xs ys hd he
    | _ => simp only [toP, eqB, PyData.eqv] <;> (cases j <;> cases he)
  | k + 1, j, .lst xs, e, hd, he => by
    cases e with
    | lst ys =>
      cases j with
      | zero => cases he
      | succ j =>
        simp only [toP, eqB, PyData.eqv]
        exact eqBs_eqv k j xs ys hd he
    | _ => simp only [toP, eqB, PyData.eqv] <;> (cases j <;> cases he)
  | k, j, .dic _ _, e, hd, he => by cases k <;> cases hd
  | k, j, .dct _ _, e, hd, he => by cases k <;> cases hd
  | k, j, .obj _ _, e, hd, he => by cases k <;> cases hd
  | k, j, .feed, e, hd, he => by cases k <;> cases hd
theorem eqBs_eqv : ∀ (k j : Nat) (xs ys : List D), xs.all (plN k) = true → ys.all (plN j) = true → eqBs xs ys = PyData.eqvAll (toPs xs) (toPs ys)
  | k, j, [], [], _, _ => by simp only [toPs, eqBs, PyData.eqvAll]
  | k, j, [], y :: ys, _, _ => by simp only [toPs, eqBs, PyData.eqvAll]
  | k, j, x :: xs, [], _, _ => by simp only [toPs, eqBs, PyData.eqvAll]
  | k, j, x :: xs, y :: ys, hx, hy => by
    rw [List.all_cons, Bool.and_eq_true] at hx hy
    simp only [toPs, eqBs, PyData.eqvAll]
    rw [eqB_eqv k j x y hx.1 hy.1, eqBs_eqv k j xs ys hx.2 hy.2]
end
section
variable {G : Gr} {O : Addr → Bool} {H : Hp}
mutual
theorem Rep.dp : ∀ (k : Nat) (d : D) (v : V), plN k d = true → Rep G (hid O H) d v → Dp G.K H v (toP d)
  | k, .non, v, _, h => by rw [rep_non.mp h, toP]; exact .non
  | k, .bl b, v, _, h => by rw [rep_bl.mp h, toP]; exact .bl b
  | k, .int i, v, _, h => by rw [rep_int.mp h, toP]; exact .int i
  | k, .str s, v, _, h => by rw [rep_str.mp h, toP]; exact .str _
  | 0, .tup xs, v, hp, h => by cases hp
  | 0, .lst xs, v, hp, h => by cases hp
  | k + 1, .tup xs, v, hp, h => by
    obtain ⟨a, vs, rfl, h1, h2⟩ := rep_tup.mp h
    rw [toP]
    exact .tup (SqT.same hid_le h1.sq) (Reps.dp k xs vs hp h2)
  | k + 1, .lst xs, v, hp, h => by
    obtain ⟨a, vs, rfl, h1, h2⟩ := rep_lst.mp h
    rw [toP]
    exact .lst (SqL.of (hid_le _ _ h1)) (Reps.dp k xs vs hp h2)
  | k, .dic _ _, v, hp, h => by cases k <;> cases hp
  | k, .dct _ _, v, hp, h => by cases k <;> cases hp
  | k, .obj _ _, v, hp, h => by cases k <;> cases hp
  | k, .feed, v, hp, h => by cases k <;> cases hp
theorem Reps.dp : ∀ (k : Nat) (xs : List D) (vs : List V), xs.all (plN k) = true → Reps G (hid O H) xs vs → DpAll G.K H vs (toPs xs)
  | k, [], vs, _, h => by rw [reps_nil.mp h, toPs]; exact .nil
  | k, x :: xs, vs, hp, h => by
    rw [List.all_cons, Bool.and_eq_true] at hp
    obtain ⟨v, r, rfl, h1, h2⟩ := reps_cons.mp h
    rw [toPs]
    exact .cons (Rep.dp k x v hp.1 h1) (Reps.dp k xs r hp.2 h2)
end
theorem RepW.dp {d : D} {v : V} (hp : plD d = true) (h : RepW G O H d v) : Dp G.K H v (toP d) := by
  rcases h with h | ⟨p, rfl, h2, h3, h4, h5⟩
  · exact Rep.dp 12 d v hp h
  · cases d with
    | lst xs =>
      obtain ⟨vs, h6, h7⟩ := h4
      rw [toP]
      exact .lst (SqL.of h6) (Reps.dp 11 xs vs hp h7)
    | dic _ _ => cases hp
    | dct _ _ => cases hp
    | obj _ _ => cases hp
    | non => exact h4.elim
    | bl _ => exact h4.elim
    | int _ => exact h4.elim
    | str _ => exact h4.elim
    | tup _ => exact h4.elim
    | feed => exact h4.elim
end
/-! ### new objects -/
section
variable {G : Gr} {O : Addr → Bool} {n : Nat} {H : Hp} {p : Addr}
theorem new_lst (g : Gd G O n H) (hp : H p = none) {xs : List D} {vs : List V} (r : Reps G (hid O H) xs vs) : Rep G (hid O (upd H p (.lst vs))) (.lst xs) (.ref p) :=
  rep_lst.mpr ⟨p, vs, rfl, hid_of (g.off hp) upd_same, r.same (hid_new hp)⟩
theorem new_tup (g : Gd G O n H) (hp : H p = none) {xs : List D} {vs : List V} (r : Reps G (hid O H) xs vs) : Rep G (hid O (upd H p (.tup vs))) (.tup xs) (.ref p) :=
  rep_tup.mpr ⟨p, vs, rfl, .inl (hid_of (g.off hp) upd_same), r.same (hid_new hp)⟩
theorem own_lst (hp : H p = none) {xs : List D} {vs : List V} (r : Reps G (hid O H) xs vs) : RepO G (offO O p) (upd H p (.lst vs)) p (.lst xs) := ⟨vs, upd_same, r.same (hid_off_new hp)⟩
theorem Gd.ne (g : Gd G O n H) (hp : H p = none) : p ≠ G.fd := by
  rintro rfl
  obtain ⟨o, e⟩ := g.feed.at
  rw [hp] at e; cases e
end
/-! ### arithmetic -/
def bigN : Nat := 10000000
theorem ite_some {α : Type} {c : Prop} [Decidable c] {a r : α} (h : (if c then some a else none) = some r) : c ∧ a = r := by
  by_cases hc : c
  · rw [if_pos hc] at h; exact ⟨hc, Option.some.inj h⟩
  · rw [if_neg hc] at h; cases h
theorem big_le {n : Nat} (h : n ≤ bigN) : n ≤ sizeLine := Nat.le_trans h (by decide)
theorem big_lt {n : Nat} (h : n < bigN) : n < sizeLine := Nat.lt_of_lt_of_le h (by decide)
def addD : D → D → Option D
  | .int a, .int b => some (.int (a + b))
  | .str a, .str b => if a.length + b.length ≤ bigN then some (.str (a ++ b)) else none
  | .lst a, .lst b => if a.length + b.length ≤ bigN then some (.lst (a ++ b)) else none
  | .tup a, .tup b => if a.length + b.length ≤ bigN then some (.tup (a ++ b)) else none
  | _, _ => none
def subD : D → D → Option D
  | .int a, .int b => some (.int (a - b))
  | _, _ => none
def smI (a : Int) : Bool := decide (a.natAbs < 2 ^ 64)
def midI (a : Int) : Bool := decide (a.natAbs < 2 ^ 1000)
def mulD : D → D → Option D
  | .int a, .int b => if smI a || smI b || (midI a && midI b) then some (.int (a * b)) else none
  | .lst a, .int b => if b ≤ 1000000 ∧ a.length * b.toNat ≤ bigN ∧ -1000000 ≤ b then some (.lst (List.replicate b.toNat a).flatten) else none
  | _, _ => none
def fdivD : D → D → Option D
  | .int a, .int b => if 0 < b ∧ midI b = true then some (.int (a / b)) else none
  | _, _ => none
def modD : D → D → Option D
  | .int a, .int b => if 0 < b then some (.int (a % b)) else none
  | _, _ => none
def powD : D → D → Option D
  | .int a, .int b => if 0 ≤ b ∧ b ≤ 1000 ∧ smI a = true then some (.int (a ^ b.toNat)) else none
  | _, _ => none
def negD : D → Option D
  | .int a => some (.int (-a))
  | _ => none
section
variable {X : Cx} {S : Sa}
theorem op_subD : OpR X (binaryOp .Sub) (rD2 S subD) := by
  intro pins s σ H x y v u Q I rx ry h
  obtain ⟨fd, fl, O, n, dx, dy, r, gd, wx, wy, e, q⟩ := h
  cases dx <;> cases dy <;> first | cases e | skip
  have h1 := wx.int
  have h2 := wy.int
  exact op_sub pins s σ H x y v u Q I rx ry ⟨_, _, h1, h2, q _ H gd.rfl (rep_int.mpr rfl)⟩
theorem smI_bd {a : Int} (h : smI a = true) : -(2 ^ 64) < a ∧ a < 2 ^ 64 := by
  have := of_decide_eq_true h
  omega
theorem midI_bd {a : Int} (h : midI a = true) : a.natAbs < 2 ^ 1000 := of_decide_eq_true h
theorem op_addD (hK : X.K = S.K) : OpR X (binaryOp .Add) (rD2 S addD) := by
  intro pins s σ H x y v u Q I rx ry h
  obtain ⟨fd, fl, O, n, dx, dy, r, gd, wx, wy, e, q⟩ := h
  cases dx with
  | int a =>
    cases dy <;> first | cases e | skip
    exact op_add pins s σ H x y v u Q I rx ry ⟨_, _, wx.int, wy.int, q _ H gd.rfl (rep_int.mpr rfl)⟩
  | str a =>
    cases dy <;> first | cases e | skip
    rename_i b
    obtain ⟨hl, rfl⟩ := ite_some e
    refine op_add_str pins s σ H x y v u Q I rx ry ⟨_, _, wx.str, wy.str, ?_, ?_⟩
    · rw [tx_len, tx_len]; exact big_le hl
    · rw [tx_app]
      exact q _ H gd.rfl (rep_str.mpr rfl)
  | lst a =>
    cases dy <;> first | cases e | skip
    rename_i b
    obtain ⟨hl, rfl⟩ := ite_some e
    obtain ⟨p, vs, ep, hp, rp⟩ := wx.lst
    obtain ⟨p', vs', ep', hp', rp'⟩ := wy.lst
    refine op_cat pins s σ H x y v u Q I rx ry ⟨p, p', vs, vs', ep, ep', hp, hp', ?_, fun l hl' => ?_⟩
    · rw [← rp.length, ← rp'.length]; exact big_le hl
    · exact q _ _ (gd.new hl') (new_lst gd hl' (rp.append rp'))
  | tup a =>
    cases dy <;> first | cases e | skip
    rename_i b
    obtain ⟨hl, rfl⟩ := ite_some e
    obtain ⟨p, vs, ep, hp, rp⟩ := wx.tup
    obtain ⟨p', vs', ep', hp', rp'⟩ := wy.tup
    have hp2 : SqT X.K H p vs := by rw [hK]; exact hp
    have hp2' : SqT X.K H p' vs' := by rw [hK]; exact hp'
    have wx' : Rep (S.gr fd fl) (hid O H) (.tup a) x := by
      rcases wx with h | ⟨p, _, _, _, h4, _⟩
      · exact h
      · exact h4.elim
    have wy' : Rep (S.gr fd fl) (hid O H) (.tup b) y := by
      rcases wy with h | ⟨p, _, _, _, h4, _⟩
      · exact h
      · exact h4.elim
    refine op_catA pins s σ H x y v u Q I rx ry ⟨p, p', vs, vs', ep, ep', hp2, hp2', ?_, fun h1 => ?_, fun h1 h2 => ?_, fun h1 h2 l hl' => ?_⟩
    · rw [← rp.length, ← rp'.length]; exact big_le hl
    · have ea : a = [] := by
        have := rp.length
        rw [h1] at this
        exact List.eq_nil_of_length_eq_zero this
      subst ea
      rw [← ep']
      exact q _ H gd.rfl wy'
    · have eb : b = [] := by
        have := rp'.length
        rw [h2] at this
        exact List.eq_nil_of_length_eq_zero this
      subst eb
      rw [← ep]
      refine q _ H gd.rfl ?_
      rw [List.append_nil]
      exact wx'
    · exact q _ _ (gd.new hl') (new_tup gd hl' (rp.append rp'))
  | _ => cases dy <;> cases e
theorem op_mulD : OpR X (binaryOp .Mult) (rD2 S mulD) := by
  intro pins s σ H x y v u Q I rx ry h
  obtain ⟨fd, fl, O, n, dx, dy, r, gd, wx, wy, e, q⟩ := h
  cases dx with
  | int a =>
    cases dy with
    | int b =>
      obtain ⟨hc, rfl⟩ := ite_some e
      rw [Bool.or_eq_true, Bool.or_eq_true, Bool.and_eq_true] at hc
      rcases hc with (hc | hc) | ⟨h1, h2⟩
      · exact op_mul pins s σ H x y v u Q I rx ry ⟨_, _, wx.int, wy.int, .inl (smI_bd hc), q _ H gd.rfl (rep_int.mpr rfl)⟩
      · exact op_mul pins s σ H x y v u Q I rx ry ⟨_, _, wx.int, wy.int, .inr (smI_bd hc), q _ H gd.rfl (rep_int.mpr rfl)⟩
      · exact op_mulW pins s σ H x y v u Q I rx ry ⟨_, _, wx.int, wy.int, wide_mul (midI_bd h1) (midI_bd h2) (by decide) (by decide) (by decide), q _ H gd.rfl (rep_int.mpr rfl)⟩
    | _ => cases e
  | lst a =>
    cases dy <;> first | cases e | skip
    rename_i b
    obtain ⟨hc, rfl⟩ := ite_some e
    obtain ⟨p, vs, ep, hp, rp⟩ := wx.lst
    refine op_rep pins s σ H x y v u Q I rx ry ⟨p, b, vs, ep, wy.int, hp, by omega, by omega, ?_, fun l hl => ?_⟩
    · rw [← rp.length]; exact big_le hc.2.1
    · refine q _ _ (gd.new hl) (new_lst gd hl ?_)
      generalize b.toNat = k
      clear hc e
      induction k with
      | zero => exact .nil
      | succ k ih => rw [List.replicate_succ, List.replicate_succ, List.flatten_cons, List.flatten_cons]; exact rp.append ih
  | _ => cases dy <;> cases e
theorem op_fdivD : OpR X (binaryOp .FloorDiv) (rD2 S fdivD) := by
  intro pins s σ H x y v u Q I rx ry h
  obtain ⟨fd, fl, O, n, dx, dy, r, gd, wx, wy, e, q⟩ := h
  cases dx <;> cases dy <;> first | cases e | skip
  obtain ⟨hc, rfl⟩ := ite_some e
  exact op_fdivW pins s σ H x y v u Q I rx ry ⟨_, _, wx.int, wy.int, wide_div hc.1 (midI_bd hc.2) (by decide) (by decide), q _ H gd.rfl (rep_int.mpr rfl)⟩
theorem op_modD : OpR X (binaryOp .Mod) (rD2 S modD) := by
  intro pins s σ H x y v u Q I rx ry h
  obtain ⟨fd, fl, O, n, dx, dy, r, gd, wx, wy, e, q⟩ := h
  cases dx <;> cases dy <;> first | cases e | skip
  obtain ⟨hc, rfl⟩ := ite_some e
  exact op_mod pins s σ H x y v u Q I rx ry ⟨_, _, wx.int, wy.int, hc, q _ H gd.rfl (rep_int.mpr rfl)⟩
theorem op_powD : OpR X (binaryOp .Pow) (rD2 S powD) := by
  intro pins s σ H x y v u Q I rx ry h
  obtain ⟨fd, fl, O, n, dx, dy, r, gd, wx, wy, e, q⟩ := h
  cases dx <;> cases dy <;> first | cases e | skip
  obtain ⟨hc, rfl⟩ := ite_some e
  exact op_pow pins s σ H x y v u Q I rx ry ⟨_, _, wx.int, wy.int, ⟨hc.1, by omega, of_decide_eq_true hc.2.2⟩, q _ H gd.rfl (rep_int.mpr rfl)⟩
theorem un_negD : UnR X (unaryOp .USub) (rD1 S negD) := by
  intro pins s σ H x v Q I rx h
  obtain ⟨fd, fl, O, n, dx, r, gd, wx, e, q⟩ := h
  cases dx <;> first | cases e | skip
  exact un_neg pins s σ H x v Q I rx ⟨_, wx.int, q _ H gd.rfl (rep_int.mpr rfl)⟩
end
end Pu
set_option Elab.async false
set_option linter.all false
set_option maxRecDepth 100000
set_option maxHeartbeats 4000000
namespace Pu
open PySem PySem.Spec PyProof.Rows L2 Fd Tx
/-! ### comparisons -/
def eqDo : D → D → Option D
  | .str a, .str b => some (.bl (a == b))
  | d, e => if plD d = true ∧ plD e = true then some (.bl (eqB d e)) else none
def neDo : D → D → Option D
  | .str a, .str b => some (.bl (!(a == b)))
  | d, e => if plD d = true ∧ plD e = true then some (.bl (!eqB d e)) else none
def isNon : D → Bool
  | .non => true
  | _ => false
def isDo : D → D → Option D
  | d, .non => some (.bl (isNon d))
  | .bl a, .bl b => some (.bl (decide (a = b)))
  | _, _ => none
def isNotDo : D → D → Option D
  | d, .non => some (.bl (!isNon d))
  | .bl a, .bl b => some (.bl (!decide (a = b)))
  | _, _ => none
def ltDo : D → D → Option D
  | .int a, .int b => some (.bl (decide (a < b)))
  | .str a, .str b => some (.bl (decide (a < b)))
  | _, _ => none
def leDo : D → D → Option D
  | .int a, .int b => some (.bl (decide (a ≤ b)))
  | _, _ => none
def gtDo : D → D → Option D
  | .int a, .int b => some (.bl (decide (b < a)))
  | _, _ => none
def geDo : D → D → Option D
  | .int a, .int b => some (.bl (decide (b ≤ a)))
  | _, _ => none
def flat : D → Bool
  | .non => true
  | .bl _ => true
  | .int _ => true
  | .str _ => true
  | _ => false
def keyOf : D → Option Ky
  | .int i => some (.inl i)
  | .str s => some (.inr s)
  | _ => none
def keysOf : List D → Option (List Ky)
  | [] => some []
  | x :: xs => match keyOf x, keysOf xs with
    | some k, some ks => some (k :: ks)
    | _, _ => none
def hasK {α : Type} [DecidableEq α] (ks : List α) (k : α) : Bool := ks.any fun j => decide (j = k)
theorem hasK_iff {α : Type} [DecidableEq α] {ks : List α} {k : α} : hasK ks k = true ↔ k ∈ ks := by
  unfold hasK
  rw [List.any_eq_true]
  exact ⟨fun ⟨j, h1, h2⟩ => of_decide_eq_true h2 ▸ h1, fun h => ⟨k, h, decide_eq_true rfl⟩⟩
def inB (d : D) : D → Option Bool
  | .str t => match d with
    | .str [c] => some (decide (c ∈ t))
    | _ => none
  | .lst ys => if plD d = true ∧ plN 11 (.lst ys) = true then some (ys.any fun y => eqB y d) else none
  | .tup ys => if flat d = true ∧ ys.all flat = true then some (ys.any fun y => eqB y d) else none
  | .dic ks _ => (keyOf d).map fun k => hasK ks k
  | .dct ks _ => match d with
    | .tup ds => (keysOf ds).map fun k => hasK ks k
    | _ => none
  | _ => none
def inDo (d e : D) : Option D := (inB d e).map .bl
def ninDo (d e : D) : Option D := (inB d e).map fun b => .bl (!b)
section
variable {X : Cx} {S : Sa}
theorem isNon_iff {G : Gr} {O : Addr → Bool} {H : Hp} {d : D} {v : V} (h : RepW G O H d v) : decide (v = .non) = isNon d := by
  cases d with
  | non => rw [h.non]; rfl
  | bl b => rw [h.bl]; rfl
  | int b => rw [h.int]; rfl
  | str b => rw [h.str]; rfl
  | tup b => obtain ⟨_, _, rfl, _⟩ := h.tup; rfl
  | lst b => obtain ⟨_, _, rfl, _⟩ := h.lst; rfl
  | dic b c => obtain ⟨_, _, rfl, _⟩ := h.dic; rfl
  | dct b c => obtain ⟨_, _, rfl, _⟩ := h.dct; rfl
  | obj b c => obtain ⟨_, _, _, rfl, _⟩ := h.obj; rfl
  | feed => rw [h.feed]; rfl
theorem op_isDo : OpR X (compareOp .Is) (rD2 S isDo) := by
  intro pins s σ H x y v u Q I rx ry h
  obtain ⟨fd, fl, O, n, dx, dy, r, gd, wx, wy, e, q⟩ := h
  cases dy with
  | non =>
    have e' : some (D.bl (isNon dx)) = some r := by cases dx <;> exact e
    cases e'
    refine op_isN pins s σ H x y v u Q I rx ry ⟨wy.non, ?_⟩
    rw [isNon_iff wx]
    exact q _ H gd.rfl (rep_bl.mpr rfl)
  | bl b =>
    cases dx <;> first | cases e | skip
    exact op_is_bl pins s σ H x y v u Q I rx ry ⟨_, _, wx.bl, wy.bl, q _ H gd.rfl (rep_bl.mpr rfl)⟩
  | _ => cases dx <;> cases e
theorem op_isNotDo : OpR X (compareOp .IsNot) (rD2 S isNotDo) := by
  intro pins s σ H x y v u Q I rx ry h
  obtain ⟨fd, fl, O, n, dx, dy, r, gd, wx, wy, e, q⟩ := h
  cases dy with
  | non =>
    have e' : some (D.bl (!isNon dx)) = some r := by cases dx <;> exact e
    cases e'
    refine op_notN pins s σ H x y v u Q I rx ry ⟨wy.non, ?_⟩
    rw [isNon_iff wx]
    exact q _ H gd.rfl (rep_bl.mpr rfl)
  | bl b =>
    cases dx <;> first | cases e | skip
    exact op_isnot_bl pins s σ H x y v u Q I rx ry ⟨_, _, wx.bl, wy.bl, q _ H gd.rfl (rep_bl.mpr rfl)⟩
  | _ => cases dx <;> cases e
theorem op_eqDo (hK : X.K = S.K) (hu : X.A.units + 64 < cLine) : OpR X (compareOp .Eq) (rD2 S eqDo) := by
  intro pins s σ H x y v u Q I rx ry h
  obtain ⟨fd, fl, O, n, dx, dy, r, gd, wx, wy, e, q⟩ := h
  have main : (if plD dx = true ∧ plD dy = true then some (D.bl (eqB dx dy)) else none) = some r → wpAny (model X.prog X.w) X.A (compareOp .Eq v u) (EP X pins σ Q) X.xe s := by
    intro e
    obtain ⟨⟨h1, h2⟩, rfl⟩ := ite_some e
    refine op_eqD hu pins s σ H x y v u Q I rx ry ⟨toP dx, toP dy, by rw [hK]; exact wx.dp h1, by rw [hK]; exact wy.dp h2, plD_shaped h1, plD_shaped h2, ?_⟩
    rw [← eqB_eqv 12 12 dx dy h1 h2]
    exact q _ H gd.rfl (rep_bl.mpr rfl)
  cases dx with
  | str a =>
    cases dy with
    | str b =>
      cases e
      refine op_eq pins s σ H x y v u Q I rx ry ⟨?_, ?_⟩
      · rw [wx.str, wy.str]; rfl
      · rw [wx.str, wy.str]
        have e1 : decide (V.str (tx a) = V.str (tx b)) = (a == b) := by
          rw [Bool.eq_iff_iff, decide_eq_true_iff, beq_iff_eq]
          exact ⟨fun h => tx_inj (V.str.inj h), fun h => by rw [h]⟩
        rw [e1]
        exact q _ H gd.rfl (rep_bl.mpr rfl)
    | _ => exact main e
  | _ => exact main e
theorem op_neDo (hK : X.K = S.K) (hu : X.A.units + 64 < cLine) : OpR X (compareOp .NotEq) (rD2 S neDo) := by
  intro pins s σ H x y v u Q I rx ry h
  obtain ⟨fd, fl, O, n, dx, dy, r, gd, wx, wy, e, q⟩ := h
  have main : (if plD dx = true ∧ plD dy = true then some (D.bl (!eqB dx dy)) else none) = some r → wpAny (model X.prog X.w) X.A (compareOp .NotEq v u) (EP X pins σ Q) X.xe s := by
    intro e
    obtain ⟨⟨h1, h2⟩, rfl⟩ := ite_some e
    refine op_neD hu pins s σ H x y v u Q I rx ry ⟨toP dx, toP dy, by rw [hK]; exact wx.dp h1, by rw [hK]; exact wy.dp h2, plD_shaped h1, plD_shaped h2, ?_⟩
    rw [← eqB_eqv 12 12 dx dy h1 h2]
    exact q _ H gd.rfl (rep_bl.mpr rfl)
  cases dx with
  | str a =>
    cases dy with
    | str b =>
      cases e
      refine op_ne pins s σ H x y v u Q I rx ry ⟨?_, ?_⟩
      · rw [wx.str, wy.str]; rfl
      · rw [wx.str, wy.str]
        have e1 : decide (V.str (tx a) = V.str (tx b)) = (a == b) := by
          rw [Bool.eq_iff_iff, decide_eq_true_iff, beq_iff_eq]
          exact ⟨fun h => tx_inj (V.str.inj h), fun h => by rw [h]⟩
        rw [e1]
        exact q _ H gd.rfl (rep_bl.mpr rfl)
    | _ => exact main e
  | _ => exact main e
theorem op_ltDo : OpR X (compareOp .Lt) (rD2 S ltDo) := by
  intro pins s σ H x y v u Q I rx ry h
  obtain ⟨fd, fl, O, n, dx, dy, r, gd, wx, wy, e, q⟩ := h
  cases dx <;> cases dy <;> first | cases e | skip
  · exact op_lt pins s σ H x y v u Q I rx ry ⟨_, _, wx.int, wy.int, q _ H gd.rfl (rep_bl.mpr rfl)⟩
  · refine op_lt_str pins s σ H x y v u Q I rx ry ⟨_, _, wx.str, wy.str, ?_⟩
    rw [tx_cps, tx_cps]
    exact q _ H gd.rfl (rep_bl.mpr rfl)
theorem op_leDo : OpR X (compareOp .LtE) (rD2 S leDo) := by
  intro pins s σ H x y v u Q I rx ry h
  obtain ⟨fd, fl, O, n, dx, dy, r, gd, wx, wy, e, q⟩ := h
  cases dx <;> cases dy <;> first | cases e | skip
  exact op_le pins s σ H x y v u Q I rx ry ⟨_, _, wx.int, wy.int, q _ H gd.rfl (rep_bl.mpr rfl)⟩
theorem op_gtDo : OpR X (compareOp .Gt) (rD2 S gtDo) := by
  intro pins s σ H x y v u Q I rx ry h
  obtain ⟨fd, fl, O, n, dx, dy, r, gd, wx, wy, e, q⟩ := h
  cases dx <;> cases dy <;> first | cases e | skip
  exact op_gt pins s σ H x y v u Q I rx ry ⟨_, _, wx.int, wy.int, q _ H gd.rfl (rep_bl.mpr rfl)⟩
theorem op_geDo : OpR X (compareOp .GtE) (rD2 S geDo) := by
  intro pins s σ H x y v u Q I rx ry h
  obtain ⟨fd, fl, O, n, dx, dy, r, gd, wx, wy, e, q⟩ := h
  cases dx <;> cases dy <;> first | cases e | skip
  exact op_ge pins s σ H x y v u Q I rx ry ⟨_, _, wx.int, wy.int, q _ H gd.rfl (rep_bl.mpr rfl)⟩
/-! keys of dicts -/
theorem keyOf_rep {G : Gr} {O : Addr → Bool} {H : Hp} {d : D} {v : V} {k : Ky} (h : RepW G O H d v) (e : keyOf d = some k) : v = kV (kyK k) := by
  cases d <;> first | cases e | skip
  · rw [h.int]; rfl
  · rw [h.str]; rfl
theorem keyOf_rep' {G : Gr} {H : Hp} {d : D} {v : V} {k : Ky} (h : Rep G H d v) (e : keyOf d = some k) : v = kV (kyK k) := by
  cases d <;> first | cases e | skip
  · rw [rep_int.mp h]; rfl
  · rw [rep_str.mp h]; rfl
theorem keysOf_reps {G : Gr} {H : Hp} : ∀ {ds : List D} {vs : List V} {ks : List Ky}, Reps G H ds vs → keysOf ds = some ks → vs = (ks.map kyK).map kV
  | [], vs, ks, h, e => by cases e; rw [reps_nil.mp h]; rfl
  | d :: ds, vs, ks, h, e => by
    obtain ⟨v, r, rfl, h1, h2⟩ := reps_cons.mp h
    unfold keysOf at e
    split at e
    · rename_i k ks' e1 e2
      cases e
      rw [keyOf_rep' h1 e1, keysOf_reps h2 e2]
      rfl
    · cases e
theorem val_zip {α β : Type} [DecidableEq α] [DecidableEq β] {f : α → β} (hf : ∀ a b, f a = f b → a = b) : ∀ {ks : List α} {vs : List V} {k : α}, ks.length = vs.length → (valV ((ks.map f).zip vs) (f k)).isSome = hasK ks k
  | [], vs, k, _ => rfl
  | a :: ks, [], k, h => by cases h
  | a :: ks, v :: vs, k, h => by
    show (valV ((f a, v) :: (ks.map f).zip vs) (f k)).isSome = (decide (a = k) || hasK ks k)
    by_cases e : a = k
    · rw [valV_pos (by rw [e]), decide_eq_true e]
      rfl
    · rw [valV_neg (fun z => e (hf _ _ z)), val_zip hf (Nat.succ.inj h), decide_eq_false e]
      rfl
theorem map_kyK_inj {a b : List Ky} (h : a.map kyK = b.map kyK) : a = b := (List.map_inj_right (fun _ _ => kyK_inj)).mp h
theorem flat_eq {G : Gr} {H : Hp} {d e : D} {v w : V} (hd : flat d = true) (he : flat e = true) (r : Rep G H d v) (t : Rep G H e w) : eqV v w = eqB d e := by
  cases d <;> first | cases hd | skip
  all_goals cases e <;> first | cases he | skip
  all_goals first
    | (rw [rep_non.mp r]; first | rw [rep_non.mp t] | rw [rep_bl.mp t] | rw [rep_int.mp t] | rw [rep_str.mp t])
    | (rw [rep_bl.mp r]; first | rw [rep_non.mp t] | rw [rep_bl.mp t] | rw [rep_int.mp t] | rw [rep_str.mp t])
    | (rw [rep_int.mp r]; first | rw [rep_non.mp t] | rw [rep_bl.mp t] | rw [rep_int.mp t] | rw [rep_str.mp t])
    | (rw [rep_str.mp r]; first | rw [rep_non.mp t] | rw [rep_bl.mp t] | rw [rep_int.mp t] | rw [rep_str.mp t])
  all_goals simp only [eqB, eqV]
  exact tx_beq _ _
theorem flat_of {G : Gr} {H : Hp} {d : D} {v : V} (hd : flat d = true) (r : Rep G H d v) : flatV v = true := by
  cases d <;> first | cases hd | skip
  · rw [rep_non.mp r]; rfl
  · rw [rep_bl.mp r]; rfl
  · rw [rep_int.mp r]; rfl
  · rw [rep_str.mp r]; rfl
theorem flats_of {G : Gr} {H : Hp} : ∀ {ds : List D} {vs : List V}, ds.all flat = true → Reps G H ds vs → vs.all flatV = true
  | [], vs, _, h => by rw [reps_nil.mp h]; rfl
  | d :: ds, vs, hd, h => by
    obtain ⟨v, r, rfl, h1, h2⟩ := reps_cons.mp h
    rw [List.all_cons, Bool.and_eq_true] at hd ⊢
    exact ⟨flat_of hd.1 h1, flats_of hd.2 h2⟩
theorem flats_in {G : Gr} {H : Hp} {d : D} {v : V} (hd : flat d = true) (r : Rep G H d v) : ∀ {ds : List D} {vs : List V}, ds.all flat = true → Reps G H ds vs → inV v vs = ds.any fun y => eqB y d
  | [], vs, _, h => by rw [reps_nil.mp h]; rfl
  | e :: ds, vs, he, h => by
    obtain ⟨w, t, rfl, h1, h2⟩ := reps_cons.mp h
    rw [List.all_cons, Bool.and_eq_true] at he
    have ih := flats_in hd r he.2 h2
    unfold inV at ih ⊢
    rw [List.any_cons, List.any_cons, ih, flat_eq he.1 hd h1 r]
theorem RepW.flat {G : Gr} {O : Addr → Bool} {H : Hp} {d : D} {v : V} (h : RepW G O H d v) (hd : flat d = true) : Rep G (hid O H) d v := by
  rcases h with h | ⟨p, _, _, _, h4, _⟩
  · exact h
  · cases d <;> first | exact h4.elim | cases hd
theorem any_eqB {d : D} (hd : plD d = true) : ∀ {ys : List D}, ys.all (plN 12) = true → ((toPs ys).any fun z => PyData.eqv z (toP d)) = ys.any fun y => eqB y d
  | [], _ => by rw [toPs]; rfl
  | y :: ys, h => by
    rw [List.all_cons, Bool.and_eq_true] at h
    rw [toPs, List.any_cons, List.any_cons, any_eqB hd h.2, eqB_eqv 12 12 y d h.1 hd]
theorem plN_mono : ∀ {k : Nat} {d : D}, plN k d = true → plN (k + 1) d = true
  | 0, d, h => by cases d <;> first | rfl | exact h | cases h
  | k + 1, d, h => by
    cases d with
    | tup xs => exact List.all_eq_true.mpr fun x hx => plN_mono (List.all_eq_true.mp h x hx)
    | lst xs => exact List.all_eq_true.mpr fun x hx => plN_mono (List.all_eq_true.mp h x hx)
    | str s => exact h
    | non => rfl
    | bl _ => rfl
    | int _ => rfl
    | _ => cases h
theorem key_sq {pins : List (Addr × Obj)} {s : Shared} {σ : L2.St} {H : Hp} {ks : List Key} {a : Addr} (I : L2.Inv X pins σ H s) (h : SqT X.K H a (ks.map kV)) : (tupleKind (mixKind X.prog X.w)).is s.heap ks a := by
  obtain ⟨its, r, ⟨o, h1, h2, n, h3⟩, _⟩ := I.tuple h
  exact ⟨o, its.toArray, n, h1, h2, h3, by simpa using items_are r⟩
theorem in_core {pins : List (Addr × Obj)} {s : Shared} {σ : L2.St} {H : Hp} {x y : V} {v u : Value} {b : Bool} {fd fl : Addr} {O : Addr → Bool} {n : Nat} {dx dy : D} (neg : Bool) (hK : X.K = S.K) (hu : X.A.units + 65 < cLine) (I : L2.Inv X pins σ H s) (rx : RelV x v) (ry : RelV y u) (Q : VK)
    (wx : RepW (S.gr fd fl) O H dx x) (wy : RepW (S.gr fd fl) O H dy y) (e : inB dx dy = some b) (q : Q (.bl (if neg then !b else b)) H) : wpAny (model X.prog X.w) X.A (compareOp (if neg then .NotIn else .In) v u) (EP X pins σ Q) X.xe s := by
  cases dy with
  | str t =>
    have : ∃ c, dx = .str [c] := by
      cases dx with
      | str a =>
        cases a with
        | nil => cases e
        | cons c a => cases a with
          | nil => exact ⟨c, rfl⟩
          | cons _ _ => cases e
      | _ => cases e
    obtain ⟨c, rfl⟩ := this
    cases e
    have h1 := wx.str
    have h2 := wy.str
    cases neg with
    | false => exact op_in_sign pins s σ H x y v u Q I rx ry ⟨c, tx t, h1, h2, by rw [tx_cps]; exact q⟩
    | true => exact op_notIn_sign pins s σ H x y v u Q I rx ry ⟨c, tx t, h1, h2, by rw [tx_cps]; exact q⟩
  | lst ys =>
    have e' : (if plD dx = true ∧ plN 11 (.lst ys) = true then some (ys.any fun y => eqB y dx) else none) = some b := e
    obtain ⟨⟨h1, h2⟩, rfl⟩ := ite_some e'
    have h3 : plD (.lst ys) = true := plN_mono h2
    have hy : ys.all (plN 12) = true := List.all_eq_true.mpr fun z hz => plN_mono (plN_mono (List.all_eq_true.mp h2 z hz))
    have dpx := wx.dp h1
    have dpy := wy.dp h3
    have sx := plD_shaped h1
    have sy := plD_shaped h3
    rw [toP] at dpy sy
    have dpx' : Dp X.K H x (toP dx) := by rw [hK]; exact dpx
    have dpy' : Dp X.K H y (.list (toPs ys)) := by rw [hK]; exact dpy
    cases neg with
    | false => exact op_inD hu pins s σ H x y v u Q I rx ry ⟨toP dx, toPs ys, dpx', dpy', sx, sy, by rw [any_eqB h1 hy]; exact q⟩
    | true => exact op_notInD hu pins s σ H x y v u Q I rx ry ⟨toP dx, toPs ys, dpx', dpy', sx, sy, by rw [any_eqB h1 hy]; exact q⟩
  | tup ys =>
    have e' : (if flat dx = true ∧ ys.all flat = true then some (ys.any fun y => eqB y dx) else none) = some b := e
    obtain ⟨⟨h1, h2⟩, rfl⟩ := ite_some e'
    obtain ⟨a, vs, ea, ha, ra⟩ := wy.tup
    have ha' : SqT X.K H a vs := by rw [hK]; exact ha
    have hin := flats_in h1 (wx.flat h1) h2 ra
    have hz : Q (.bl (if neg then !inV x vs else inV x vs)) H := by rw [hin]; exact q
    cases neg with
    | false => exact op_in_seq pins s σ H x y v u Q I rx ry ⟨a, vs, ea, .inr ha', flat_of h1 (wx.flat h1), flats_of h2 ra, hz⟩
    | true => exact op_notIn_seq pins s σ H x y v u Q I rx ry ⟨a, vs, ea, .inr ha', flat_of h1 (wx.flat h1), flats_of h2 ra, hz⟩
  | dic ks xs =>
    have e' : (keyOf dx).map (fun k => hasK ks k) = some b := e
    cases hk : keyOf dx with
    | none => rw [hk] at e'; cases e'
    | some k =>
      rw [hk] at e'
      cases e'
      obtain ⟨a, vs, rfl, ha, hl, ra⟩ := wy.dic
      cases ry
      have hv := keyOf_rep wx hk
      subst hv
      have g : DGet H a (kV (kyK k)) (valV ((ks.map kyK).zip vs) (kyK k)) := .inl ⟨_, kyK k, ha, rfl, rfl⟩
      have hs := val_zip (f := kyK) (fun _ _ => kyK_inj) (k := k) hl
      cases neg with
      | false => exact d_in (by omega) I g rx fun s' I' => ⟨.bl _, H, I', rfl, by rw [hs]; exact q⟩
      | true => exact d_notIn (by omega) I g rx fun s' I' => ⟨.bl _, H, I', rfl, by rw [hs]; exact q⟩
  | dct ks xs =>
    have : ∃ ds, dx = .tup ds := by cases dx <;> first | exact ⟨_, rfl⟩ | cases e
    obtain ⟨ds, rfl⟩ := this
    have e' : (keysOf ds).map (fun k => hasK ks k) = some b := e
    cases hk : keysOf ds with
    | none => rw [hk] at e'; cases e'
    | some k =>
      rw [hk] at e'
      cases e'
      obtain ⟨a, vs, rfl, ha, hl, ra⟩ := wy.dct
      cases ry
      obtain ⟨c, ws, rfl, hc, rc⟩ := wx.tup
      cases rx
      have hws := keysOf_reps rc hk
      subst hws
      have kk := key_sq I (show SqT X.K H c _ by rw [hK]; exact hc)
      obtain ⟨z, hd, xs', rel, dd⟩ := dt_rd I.hok ha
      have q1 := (rel.val (k.map kyK)).isSome_eq
      rw [Option.isSome_map] at q1
      have hs := val_zip (f := fun k : List Ky => k.map kyK) (fun _ _ => map_kyK_inj) (k := k) hl
      cases neg with
      | false =>
        refine wpAny_in_heap (tupleKind_room_in1 (show X.A.units + 1 < cLine by omega)) kk hd dd ?_
        rw [← q1, hs]
        exact ⟨.bl _, H, I.tok _, rfl, q⟩
      | true =>
        refine wpAny_notIn_heap (tupleKind_room_in1 (show X.A.units + 1 < cLine by omega)) kk hd dd ?_
        rw [← q1, hs]
        exact ⟨.bl _, H, I.tok _, rfl, q⟩
  | _ => cases e
end
end Pu
set_option Elab.async false
set_option linter.all false
set_option maxRecDepth 100000
set_option maxHeartbeats 4000000
namespace Pu
open PySem PySem.Spec PyProof.Rows L2 Fd Tx
/-- what is free behind was free ahead -/
theorem Gd.old {G : Gr} {O : Addr → Bool} {n m : Nat} {H H' : Hp} (g : Gd G O n H) (ex : Ex G m H H') {l : Addr} (hl : H' l = none) : H l = none := by
  cases q : H l with
  | none => exact _root_.rfl
  | some o =>
    by_cases hf : l = G.fd
    · obtain ⟨o', e'⟩ := ex.feed.at
      rw [← hf, hl] at e'; cases e'
    · rw [ex.keep l o hf q] at hl; cases hl
section
variable {X : Cx} {S : Sa} {a b c : Expr} {fa fb fc : EX} {pos : Pos}
theorem op_inDo (hK : X.K = S.K) (hu : X.A.units + 65 < cLine) : OpR X (compareOp .In) (rD2 S inDo) := by
  intro pins s σ H x y v u Q I rx ry h
  obtain ⟨fd, fl, O, n, dx, dy, r, gd, wx, wy, e, q⟩ := h
  unfold inDo at e
  cases hb : inB dx dy with
  | none => rw [hb] at e; cases e
  | some b =>
    rw [hb] at e; cases e
    exact in_core (S := S) (n := n) false hK hu I rx ry Q wx wy hb (q _ H gd.rfl (rep_bl.mpr rfl))
theorem op_ninDo (hK : X.K = S.K) (hu : X.A.units + 65 < cLine) : OpR X (compareOp .NotIn) (rD2 S ninDo) := by
  intro pins s σ H x y v u Q I rx ry h
  obtain ⟨fd, fl, O, n, dx, dy, r, gd, wx, wy, e, q⟩ := h
  unfold ninDo at e
  cases hb : inB dx dy with
  | none => rw [hb] at e; cases e
  | some b =>
    rw [hb] at e; cases e
    exact in_core (S := S) (n := n) true hK hu I rx ry Q wx wy hb (q _ H gd.rfl (rep_bl.mpr rfl))
theorem xcmp {o : CmpOp} {op : D → D → Option D} (ho : OpR X (compareOp o) (rD2 S op)) (ha : PE X a (tW S fa)) (hb : PE X b (tW S fb)) (hm : behindInMarks o b = false) : PE X (.Compare a [o] [b] pos) (tS S (xBin op fa fb)) := pem (pe_cmpR ho ha hb hm) two
/-! ### tests -/
def blD : D → Option Bool
  | .bl b => some b
  | _ => none
def xTb (f : EX) : En → M Bool := fun ρ => bnd (f ρ) fun d => lft (blD d)
theorem blD_rep {G : Gr} {H : Hp} {d : D} {v : V} {b : Bool} (h : Rep G H d v) (e : blD d = some b) : v = .bl b := by
  cases d <;> first | cases e | skip
  exact rep_bl.mp h
theorem test_of {f : EX} : ∀ σ H Q, tB S (xTb f) σ H Q → tTest (tS S f) σ H Q := fun σ H Q ⟨fd, fl, O, ρ, n, R, eg, hf, hq⟩ =>
  ⟨fd, fl, O, ρ, n, _, eg, hf, fun d n' v H' r ex rp => by
    obtain ⟨b, e, hr⟩ := lft_iff r
    exact ⟨b, blD_rep rp e, hq b n' H' hr ex⟩⟩
theorem xtcmp {o : CmpOp} {op : D → D → Option D} (ho : OpR X (compareOp o) (rD2 S op)) (ha : PE X a (tW S fa)) (hb : PE X b (tW S fb)) (hm : behindInMarks o b = false) : PT X (.Compare a [o] [b] pos) (tB S (xTb (xBin op fa fb))) :=
  ptm (pt_cmpR ho ha hb hm) fun σ H Q h => by
    obtain ⟨fd, fl, O, ρ, n, R, eg, hf, hq⟩ := test_of σ H Q h
    exact two σ H _ ⟨fd, fl, O, ρ, n, R, eg, hf, hq⟩
/-- any expression whose value is a bool -/
theorem xtval {e : Expr} {f : EX} (h : PE X e (tS S f)) (he : ∀ whole, isTrue e X.env whole = (do let v ← whole; standAt e.pos; holding [v] (truthy v)) := by intro _; rfl) : PT X e (tB S (xTb f)) :=
  ptm (pt_val h he) fun σ H Q h => test_of σ H Q h
def xChain (op op' : D → D → Option D) (a b c : EX) : EX := fun ρ => bnd (a ρ) fun x => bnd (b ρ) fun y => bnd (lft (op x y)) fun r => bnd (lft (blD r)) fun k => if k = true then bnd (c ρ) fun z => lft (op' y z) else ret (.bl false)
theorem chain {op op' : D → D → Option D} : ∀ σ H Q, tS S (xChain op op' fa fb fc) σ H Q → tChain (rD2 S op) (rD2 S op') (tW S fa) (tW S fb) (tW S fc) σ H Q := fun σ H Q ⟨fd, fl, O, ρ, n, R, eg, hf, hq⟩ =>
  ⟨fd, fl, O, ρ, n, _, eg, hf, fun d1 n1 v1 H1 r1 ex1 w1 => ⟨fd, fl, O, ρ, n1, _, eg.ex ex1, r1, fun d2 n2 v2 H2 r2 ex2 w2 => by
    obtain ⟨r, e, hr⟩ := lft_iff r2
    refine ⟨fd, fl, O, n2, d1, d2, r, (eg.gd.ex ex1).ex ex2, w1.ex (eg.gd.ex ex1) ex2, w2, e, fun v H3 ex3 rp3 => ?_⟩
    obtain ⟨k, ek, hk⟩ := lft_iff hr
    refine ⟨k, blD_rep rp3 ek, ?_⟩
    have eg2 := ((eg.ex ex1).ex ex2)
    cases k with
    | false => exact hq (.bl false) n2 _ H3 hk ((ex1.trans ex2).trans ex3) (rep_bl.mpr rfl)
    | true =>
      refine ⟨fd, fl, O, ρ, n2, _, eg2.ex ex3, hk, fun d4 n4 v4 H4 r4 ex4 w4 => ?_⟩
      obtain ⟨r', e', hr'⟩ := lft_iff r4
      exact ⟨fd, fl, O, n4, d2, d4, r', (eg2.gd.ex ex3).ex ex4, (w2.ex eg2.gd ex3).ex (eg2.gd.ex ex3) ex4, w4, e', fun v' H' ex' rp' => hq r' n4 v' H' hr' ((((ex1.trans ex2).trans ex3).trans ex4).trans ex') rp'⟩⟩⟩
theorem xchain {o o' : CmpOp} {op op' : D → D → Option D} (ho : OpR X (compareOp o) (rD2 S op)) (ho' : OpR X (compareOp o') (rD2 S op')) (ha : PE X a (tW S fa)) (hb : PE X b (tW S fb)) (hc : PE X c (tW S fc))
    (hm : lastMarks [o, o'] [b, c] = false := by with_unfolding_all rfl) : PE X (.Compare a [o, o'] [b, c] pos) (tS S (xChain op op' fa fb fc)) := pem (pe_chain ho ho' ha hb hc hm) chain
theorem xtchain {o o' : CmpOp} {op op' : D → D → Option D} (ho : OpR X (compareOp o) (rD2 S op)) (ho' : OpR X (compareOp o') (rD2 S op')) (ha : PE X a (tW S fa)) (hb : PE X b (tW S fb)) (hc : PE X c (tW S fc))
    (hm : lastMarks [o, o'] [b, c] = false := by with_unfolding_all rfl) : PT X (.Compare a [o, o'] [b, c] pos) (tB S (xTb (xChain op op' fa fb fc))) :=
  ptm (pt_chain ho ho' ha hb hc hm) fun σ H Q h => chain σ H _ (test_of σ H Q h)
/-! truth of any value -/
def truD : D → Option Bool
  | .non => some false
  | .bl b => some b
  | .int i => some (i != 0)
  | .str s => if s.length ≤ bigN then some (!s.isEmpty) else none
  | .tup xs => some (!xs.isEmpty)
  | .lst xs => some (!xs.isEmpty)
  | _ => none
def xTr (f : EX) : En → M Bool := fun ρ => bnd (f ρ) fun d => lft (truD d)
theorem isEmpty_reps {G : Gr} {H : Hp} {xs : List D} {vs : List V} (h : Reps G H xs vs) : vs.isEmpty = xs.isEmpty := by
  have := h.length
  cases xs <;> cases vs <;> first | rfl | cases this
theorem xttr {e : Expr} {f : EX} (hK : X.K = S.K) (h : PE X e (tW S f)) (he : ∀ whole, isTrue e X.env whole = (do let v ← whole; standAt e.pos; holding [v] (truthy v)) := by intro _; rfl) : PT X e (tB S (xTr f)) :=
  ptm (pt_truth h he) fun σ H Q ⟨fd, fl, O, ρ, n, R, eg, hf, hq⟩ => ⟨fd, fl, O, ρ, n, _, eg, hf, fun d n' v H' r ex wp => by
    obtain ⟨b, e, hr⟩ := lft_iff r
    refine ⟨b, ?_, hq b n' H' hr ex⟩
    cases d with
    | non => cases e; rw [wp.non]; rfl
    | bl _ => cases e; rw [wp.bl]; rfl
    | int _ => cases e; rw [wp.int]; rfl
    | str s =>
      obtain ⟨hl, rfl⟩ := ite_some e
      rw [wp.str]
      refine ⟨by rw [tx_len]; exact big_le hl, ?_⟩
      rw [tx_len]
      cases s with
      | nil => rfl
      | cons c s =>
        show true = (((c :: s).length : Int) != 0)
        rw [eq_comm, bne_iff_ne, List.length_cons]
        omega
    | tup xs =>
      cases e
      obtain ⟨a, vs, rfl, h1, h2⟩ := wp.tup
      rw [hK]
      exact .inr (.inl ⟨vs, h1, by rw [isEmpty_reps h2]⟩)
    | lst xs =>
      cases e
      obtain ⟨a, vs, rfl, h1, h2⟩ := wp.lst
      rw [hK]
      exact .inl ⟨vs, SqL.of h1, by rw [isEmpty_reps h2]⟩
    | dic _ _ => cases e
    | dct _ _ => cases e
    | obj _ _ => cases e
    | feed => cases e⟩
/-! ### and, or, not, if -/
def xAnd (p q : En → M Bool) : En → M Bool := fun ρ => bnd (p ρ) fun k => if k = true then q ρ else ret false
def xOr (p q : En → M Bool) : En → M Bool := fun ρ => bnd (p ρ) fun k => if k = true then ret true else q ρ
def xNot (p : En → M Bool) : En → M Bool := fun ρ => bnd (p ρ) fun k => ret (!k)
variable {p q : En → M Bool} {rest : List Expr}
theorem pwm {e : Expr} {t t' : TT} (h : PW X e t) (hm : ∀ σ H Q, t' σ H Q → t σ H Q) : PW X e t' := ⟨fun w pins s σ H Q I q => h.run w pins s σ H Q I (hm σ H Q q)⟩
theorem xand1 (ha : PT X a (tB S p)) : PW X (.BoolOp .And [a] pos) (tB S p) := pw_and1 ha
theorem xor1 (ha : PT X a (tB S p)) : PW X (.BoolOp .Or [a] pos) (tB S p) := pw_or1 ha
theorem xand (ha : PT X a (tB S p)) (hb : PW X (.BoolOp .And (b :: rest) pos) (tB S q)) : PW X (.BoolOp .And (a :: b :: rest) pos) (tB S (xAnd p q)) :=
  pwm (pw_and ha hb) fun σ H Q ⟨fd, fl, O, ρ, n, R, eg, hf, hq⟩ => ⟨fd, fl, O, ρ, n, _, eg, hf, fun k n' H' r ex => by
    cases k with
    | false => exact hq false n' H' r ex
    | true => exact ⟨fd, fl, O, ρ, n', _, eg.ex ex, r, fun k2 n2 H2 r2 ex2 => hq k2 n2 H2 r2 (ex.trans ex2)⟩⟩
theorem xor (ha : PT X a (tB S p)) (hb : PW X (.BoolOp .Or (b :: rest) pos) (tB S q)) : PW X (.BoolOp .Or (a :: b :: rest) pos) (tB S (xOr p q)) :=
  pwm (pw_or ha hb) fun σ H Q ⟨fd, fl, O, ρ, n, R, eg, hf, hq⟩ => ⟨fd, fl, O, ρ, n, _, eg, hf, fun k n' H' r ex => by
    cases k with
    | true => exact hq true n' H' r ex
    | false => exact ⟨fd, fl, O, ρ, n', _, eg.ex ex, r, fun k2 n2 H2 r2 ex2 => hq k2 n2 H2 r2 (ex.trans ex2)⟩⟩
theorem xnot (ha : PT X a (tB S p)) : PT X (.UnaryOp .Not a pos) (tB S (xNot p)) :=
  ptm (pt_not ha) fun σ H Q ⟨fd, fl, O, ρ, n, R, eg, hf, hq⟩ => ⟨fd, fl, O, ρ, n, _, eg, hf, fun k n' H' r ex => hq (!k) n' H' r ex⟩
/-- .. as values -/
def xAndV (a b : EX) : EX := fun ρ => bnd (a ρ) fun d => bnd (lft (blD d)) fun k => if k = true then b ρ else ret (.bl false)
def xOrV (a b : EX) : EX := fun ρ => bnd (a ρ) fun d => bnd (lft (blD d)) fun k => if k = true then ret (.bl true) else b ρ
def notD : D → Option D
  | .bl b => some (.bl (!b))
  | _ => none
theorem xone {op} {f : EX} (h : PE X a (tS S f)) : PE X (.BoolOp op [a] pos) (tS S f) := pe_one h
theorem xandv (ha : PE X a (tS S fa)) (hb : PE X (.BoolOp .And (b :: rest) pos) (tS S fb)) : PE X (.BoolOp .And (a :: b :: rest) pos) (tS S (xAndV fa fb)) :=
  pem (pe_and ha hb) fun σ H Q ⟨fd, fl, O, ρ, n, R, eg, hf, hq⟩ => ⟨fd, fl, O, ρ, n, _, eg, hf, fun d n' v H' r ex rp => by
    obtain ⟨k, ek, hk⟩ := lft_iff r
    refine ⟨k, blD_rep rp ek, ?_⟩
    cases k with
    | false => exact hq _ n' _ H' hk ex (rep_bl.mpr rfl)
    | true => exact ⟨fd, fl, O, ρ, n', _, eg.ex ex, hk, fun d2 n2 v2 H2 r2 ex2 rp2 => hq d2 n2 v2 H2 r2 (ex.trans ex2) rp2⟩⟩
theorem xorv (ha : PE X a (tS S fa)) (hb : PE X (.BoolOp .Or (b :: rest) pos) (tS S fb)) : PE X (.BoolOp .Or (a :: b :: rest) pos) (tS S (xOrV fa fb)) :=
  pem (pe_or ha hb) fun σ H Q ⟨fd, fl, O, ρ, n, R, eg, hf, hq⟩ => ⟨fd, fl, O, ρ, n, _, eg, hf, fun d n' v H' r ex rp => by
    obtain ⟨k, ek, hk⟩ := lft_iff r
    refine ⟨k, blD_rep rp ek, ?_⟩
    cases k with
    | true => exact hq _ n' _ H' hk ex (rep_bl.mpr rfl)
    | false => exact ⟨fd, fl, O, ρ, n', _, eg.ex ex, hk, fun d2 n2 v2 H2 r2 ex2 rp2 => hq d2 n2 v2 H2 r2 (ex.trans ex2) rp2⟩⟩
theorem xnotv (ha : PE X a (tS S fa)) : PE X (.UnaryOp .Not a pos) (tS S (xUn notD fa)) :=
  pem (pe_not ha) fun σ H Q ⟨fd, fl, O, ρ, n, R, eg, hf, hq⟩ => ⟨fd, fl, O, ρ, n, _, eg, hf, fun d n' v H' r ex rp => by
    obtain ⟨r', er, hr⟩ := lft_iff r
    cases d <;> first | cases er | skip
    exact ⟨_, rep_bl.mp rp, hq _ n' _ H' hr ex (rep_bl.mpr rfl)⟩⟩
def xIf (t : En → M Bool) (a b : EX) : EX := fun ρ => bnd (t ρ) fun k => if k = true then a ρ else b ρ
theorem xif (hc : PT X c (tB S p)) (ha : PE X a (tS S fa)) (hb : PE X b (tS S fb)) : PE X (.IfExp c a b pos) (tS S (xIf p fa fb)) :=
  pem (pe_ifExp hc ha hb) fun σ H Q ⟨fd, fl, O, ρ, n, R, eg, hf, hq⟩ => ⟨fd, fl, O, ρ, n, _, eg, hf, fun k n' H' r ex => by
    cases k with
    | true => exact ⟨fd, fl, O, ρ, n', _, eg.ex ex, r, fun d2 n2 v2 H2 r2 ex2 rp2 => hq d2 n2 v2 H2 r2 (ex.trans ex2) rp2⟩
    | false => exact ⟨fd, fl, O, ρ, n', _, eg.ex ex, r, fun d2 n2 v2 H2 r2 ex2 rp2 => hq d2 n2 v2 H2 r2 (ex.trans ex2) rp2⟩⟩
/-! ### displays -/
def xNil : En → M (List D) := fun _ => ret []
def xCons (a : EX) (r : En → M (List D)) : En → M (List D) := fun ρ => bnd (a ρ) fun x => bnd (r ρ) fun xs => ret (x :: xs)
variable {es : List Expr} {fr : En → M (List D)} {e : Expr} {k : Nat}
theorem xnil : PA X [] (tAs S 0 xNil) := pam pa_nil fun σ H Q ⟨fd, fl, O, ρ, n, R, eg, hf, hq⟩ => hq [] n [] H hf rfl eg.gd.rfl .nil
theorem xcons (ha : PE X e (tS S fa)) (hr : PA X es (tAs S k fr)) (hs : starEach (e :: es) X.env = (false, eval e X.env) :: starEach es X.env := by rfl) : PA X (e :: es) (tAs S (k + 1) (xCons fa fr)) :=
  pam (pa_cons ha hr hs) fun σ H Q ⟨fd, fl, O, ρ, n, R, eg, hf, hq⟩ => ⟨fd, fl, O, ρ, n, _, eg, hf, fun d1 n1 v1 H1 r1 ex1 rp1 => ⟨fd, fl, O, ρ, n1, _, eg.ex ex1, r1, fun ds n2 vs H2 r2 hl ex2 rp2 =>
    hq _ n2 _ H2 r2 (by rw [List.length_cons, hl]) (ex1.trans ex2) (.cons ((eg.gd.ex ex1).rep ex2 rp1) rp2)⟩⟩
def xTup (f : En → M (List D)) : EX := fun ρ => bnd (f ρ) fun xs => ret (.tup xs)
def xLst (f : En → M (List D)) : EX := fun ρ => bnd (f ρ) fun xs => ret (.lst xs)
theorem xtup {x1} (h : PA X es (tAs S k fr)) (hs : k ≤ bigN := by decide) : PE X (.Tuple es x1 pos) (tS S (xTup fr)) :=
  pem (pe_tup h) fun σ H Q ⟨fd, fl, O, ρ, n, R, eg, hf, hq⟩ => ⟨fd, fl, O, ρ, n, _, eg, hf, fun ds n' vs H' r hk ex rp => ⟨by rw [← rp.length, hk]; exact big_le hs, fun l hl =>
    hq _ n' _ _ r (ex.trans ((eg.gd.ex ex).new hl)) (new_tup (eg.gd.ex ex) hl rp)⟩⟩
theorem xlst (h : PA X es (tAs S k fr)) (hs : k ≤ bigN := by decide) : PE X (.List es pos) (tF S (xLst fr)) :=
  pem (pe_lst h) fun σ H Q ⟨fd, fl, O, ρ, n, R, eg, hf, hq⟩ => ⟨fd, fl, O, ρ, n, _, eg, hf, fun ds n' vs H' r hk ex rp => ⟨by rw [← rp.length, hk]; exact big_le hs, fun l hl => by
    have hl0 : H l = none := eg.gd.old ex hl
    exact hq _ n' _ _ r (ex.trans ((eg.gd.ex ex).new hl)) hl0 ((eg.gd.ex ex).ne hl) (own_lst hl rp) (fun _ _ z => nomatch z)⟩⟩
end
end Pu
set_option Elab.async false
set_option linter.all false
set_option maxRecDepth 100000
set_option maxHeartbeats 4000000
namespace Pu
open PySem PySem.Spec PyProof.Rows L2 Fd Tx
/-! ### subscripts -/
def lookD {α : Type} [DecidableEq α] : List α → List D → α → Option D
  | k :: ks, x :: xs, j => if k = j then some x else lookD ks xs j
  | _, _, _ => none
def idxD : D → D → Option D
  | .lst xs, .int i => atI xs i
  | .tup xs, .int i => atI xs i
  | .str s, .int i => if s.length ≤ bigN then (atI s i).map fun c => .str [c] else none
  | .dic ks xs, k => (keyOf k).bind fun j => lookD ks xs j
  | .dct ks xs, .tup ds => (keysOf ds).bind fun j => lookD ks xs j
  | _, _ => none
section
variable {X : Cx} {S : Sa} {a b c : Expr} {fa fb fc : EX} {pos : Pos}
theorem Reps.at {G : Gr} {H : Hp} {xs : List D} {vs : List V} {i : Int} {x : D} (h : Reps G H xs vs) (e : atI xs i = some x) : ∃ v, atI vs i = some v ∧ Rep G H x v := by
  unfold atI at e ⊢
  rw [← h.length]
  cases q : ixN xs.length i with
  | none => rw [q] at e; cases e
  | some j =>
    rw [q] at e
    exact h.get e
theorem look_zip {α β : Type} [DecidableEq α] [DecidableEq β] {f : α → β} (hf : ∀ a b, f a = f b → a = b) {G : Gr} {H : Hp} : ∀ {ks : List α} {xs : List D} {vs : List V} {k : α} {x : D}, Reps G H xs vs → lookD ks xs k = some x → ∃ v, valV ((ks.map f).zip vs) (f k) = some v ∧ Rep G H x v
  | [], xs, vs, k, x, _, e => by cases xs <;> cases e
  | a :: ks, [], vs, k, x, _, e => by cases e
  | a :: ks, y :: ys, vs, k, x, h, e => by
    obtain ⟨v, r, rfl, h1, h2⟩ := reps_cons.mp h
    unfold lookD at e
    show ∃ v', valV ((f a, v) :: (ks.map f).zip r) (f k) = some v' ∧ Rep G H x v'
    by_cases q : a = k
    · rw [if_pos q] at e; cases e
      exact ⟨v, valV_pos (by rw [q]), h1⟩
    · rw [if_neg q] at e
      rw [valV_neg (fun z => q (hf _ _ z))]
      exact look_zip hf h2 e
theorem ix_D (hK : X.K = S.K) (hu : X.A.units + 1 < cLine) : IxR X (rD2 S idxD) := by
  intro value slice pins s σ H x y v u Q I rx ry h hs
  obtain ⟨fd, fl, O, n, dx, dy, r, gd, wx, wy, e, q⟩ := h
  cases dx with
  | lst xs =>
    cases dy <;> first | cases e | skip
    obtain ⟨p, vs, ep, hp, rp⟩ := wx.lst
    obtain ⟨z, hz, rz⟩ := rp.at e
    exact ix_list value slice pins s σ H x y v u Q I rx ry ⟨p, vs, _, z, ep, wy.int, SqL.of hp, hz, q z H gd.rfl rz⟩ hs
  | tup xs =>
    cases dy <;> first | cases e | skip
    obtain ⟨p, vs, ep, hp, rp⟩ := wx.tup
    obtain ⟨z, hz, rz⟩ := rp.at e
    exact ix_tup value slice pins s σ H x y v u Q I rx ry ⟨p, vs, _, z, ep, wy.int, by rw [hK]; exact hp, hz, q z H gd.rfl rz⟩ hs
  | str t =>
    cases dy <;> first | cases e | skip
    rename_i i
    have e' : (if t.length ≤ bigN then (atI t i).map fun c => D.str [c] else none) = some r := e
    by_cases hl : t.length ≤ bigN
    · rw [if_pos hl] at e'
      cases hc : atI t i with
      | none => rw [hc] at e'; cases e'
      | some c =>
        rw [hc] at e'
        cases e'
        exact ix_str value slice pins s σ H x y v u Q I rx ry ⟨tx t, i, c, wx.str, wy.int, by rw [tx_len]; exact big_le hl, by rw [tx_cps]; exact hc, q _ H gd.rfl (rep_str.mpr rfl)⟩ hs
    · rw [if_neg hl] at e'; cases e'
  | dic ks xs =>
    have e' : ((keyOf dy).bind fun j => lookD ks xs j) = some r := by cases dy <;> exact e
    cases hk : keyOf dy with
    | none => rw [hk] at e'; cases e'
    | some k =>
      rw [hk] at e'
      obtain ⟨p, vs, rfl, ha, hl, ra⟩ := wx.dic
      obtain ⟨z, hz, rz⟩ := look_zip (f := kyK) (fun _ _ => kyK_inj) ra e'
      have hv := keyOf_rep wy hk
      subst hv
      cases rx
      have g : DGet H p (kV (kyK k)) (some z) := .inl ⟨_, kyK k, ha, rfl, hz.symm⟩
      exact tail_any (dict_typeIs I g) slot_dict_getitem.lookup (d_getItem hu I g ry fun w' s' I' rw' => ⟨z, H, I', rw', q z H gd.rfl rz⟩) hs
  | dct ks xs =>
    cases dy <;> first | cases e | skip
    rename_i ds
    have e' : ((keysOf ds).bind fun j => lookD ks xs j) = some r := e
    cases hk : keysOf ds with
    | none => rw [hk] at e'; cases e'
    | some k =>
      rw [hk] at e'
      obtain ⟨p, vs, rfl, ha, hl, ra⟩ := wx.dct
      obtain ⟨z, hz, rz⟩ := look_zip (f := fun k : List Ky => k.map kyK) (fun _ _ => map_kyK_inj) ra e'
      obtain ⟨c', ws, rfl, hc, rc⟩ := wy.tup
      cases rx
      cases ry
      have hws := keysOf_reps rc hk
      subst hws
      have kk := key_sq I (show SqT X.K H c' _ by rw [hK]; exact hc)
      obtain ⟨_, hd, xs', rel, dd⟩ := dt_rd I.hok ha
      obtain ⟨w', hw, rw'⟩ := RelO.some_of (v := z) (o := (atKey xs' (k.map kyK)).map (·.2)) (by rw [← hz]; exact rel.val (k.map kyK))
      obtain ⟨pr, hp, hp2⟩ := Option.map_eq_some_iff.mp hw
      refine tail_any dd.typeIs slot_dict_getitem.lookup (wpAny_getItem_heap (tupleKind_room_in1 hu) kk dd hp ?_) hs
      rw [hp2]
      exact ⟨z, H, I.tok _, rw', q z H gd.rfl rz⟩
  | _ => cases dy <;> cases e
theorem xidx (hK : X.K = S.K) (hu : X.A.units + 1 < cLine) (ha : PE X a (tW S fa)) (hb : PE X b (tW S fb)) (hs : PlainIx b) : PE X (.Subscript a b pos) (tS S (xBin idxD fa fb)) := pem (pe_ix (ix_D hK hu) ha hb hs) two
/-! ### slices -/
def cutD {α : Type} (xs : List α) (lo hi : Option Int) : List α := (xs.drop (HT.sIx xs.length 0 lo)).take (HT.sIx xs.length xs.length hi - HT.sIx xs.length 0 lo)
def slD (lo hi : Option Int) : D → Option D
  | .lst xs => some (.lst (cutD xs lo hi))
  | .tup xs => some (.tup (cutD xs lo hi))
  | .str s => if s.length ≤ bigN then some (.str (cutD s lo hi)) else none
  | _ => none
/-- an end of a slice -/
def tO (S : Sa) (f : En → M (Option Int)) : TO := fun σ H Q => ∃ fd fl O ρ n R, EG (S.gr fd fl) O ρ n σ H ∧ f ρ n R NoX ∧ ∀ o n' H', R o n' → Ex (S.gr fd fl) n' H H' → Q o H'
def intD : D → Option Int
  | .int i => some i
  | _ => none
def xO0 : En → M (Option Int) := fun _ => ret none
def xO1 (f : EX) : En → M (Option Int) := fun ρ => bnd (f ρ) fun d => bnd (lft (intD d)) fun i => ret (some i)
theorem pom {o : Option Expr} {t t' : TO} (h : PO X o t) (hm : ∀ σ H Q, t' σ H Q → t σ H Q) : PO X o t' := ⟨fun pins s σ H Q I q => h.run pins s σ H Q I (hm σ H Q q)⟩
theorem xo0 : PO X none (tO S xO0) := pom po_none fun σ H Q ⟨fd, fl, O, ρ, n, R, eg, hf, hq⟩ => hq none n H hf eg.gd.rfl
theorem xo1 (h : PE X a (tW S fa)) : PO X (some a) (tO S (xO1 fa)) := pom (po_some h) fun σ H Q ⟨fd, fl, O, ρ, n, R, eg, hf, hq⟩ => ⟨fd, fl, O, ρ, n, _, eg, hf, fun d n' v H' r ex wp => by
  obtain ⟨i, ei, hi⟩ := lft_iff r
  cases d <;> first | cases ei | skip
  exact ⟨_, wp.int, hq _ n' H' hi ex⟩⟩
def xSl (a : EX) (l h : En → M (Option Int)) : EX := fun ρ => bnd (a ρ) fun x => bnd (l ρ) fun lo => bnd (h ρ) fun hi => lft (slD lo hi x)
def rSlD (S : Sa) : V → Option Int → Option Int → Hp → VK → Prop := fun x lo hi H Q => ∃ fd fl O n dx r, Gd (S.gr fd fl) O n H ∧ RepW (S.gr fd fl) O H dx x ∧ slD lo hi dx = some r ∧ ∀ v H', Ex (S.gr fd fl) n H H' → Rep (S.gr fd fl) (hid O H') r v → Q v H'
theorem Reps.cut {G : Gr} {H : Hp} {xs : List D} {vs : List V} (lo hi : Option Int) (h : Reps G H xs vs) : Reps G H (cutD xs lo hi) (cutV vs lo hi) := by
  unfold cutD cutV
  rw [← h.length]
  exact (h.drop _).take _
theorem sl_D (hK : X.K = S.K) : L2.SlR X (rSlD S) := by
  intro pins s σ H x v vl vu lo hi sl Q I rx hs pl pu h
  obtain ⟨fd, fl, O, n, dx, r, gd, wx, e, q⟩ := h
  cases dx with
  | lst xs =>
    cases e
    obtain ⟨p, vs, ep, hp, rp⟩ := wx.lst
    exact sl_list pins s σ H x v vl vu lo hi sl Q I rx hs pl pu ⟨p, vs, ep, SqL.of hp, fun l hl => q _ _ (gd.new hl) (new_lst gd hl (rp.cut lo hi))⟩
  | tup xs =>
    cases e
    obtain ⟨p, vs, ep, hp, rp⟩ := wx.tup
    have hp' : SqT X.K H p vs := by rw [hK]; exact hp
    have wx' : Rep (S.gr fd fl) (hid O H) (.tup xs) x := by
      rcases wx with h | ⟨p, _, _, _, h4, _⟩
      · exact h
      · exact h4.elim
    refine sl_tupA pins s σ H x v vl vu lo hi sl Q I rx hs pl pu ⟨p, vs, ep, hp', fun hw => ?_, fun hw l hl => q _ _ (gd.new hl) (new_tup gd hl (rp.cut lo hi))⟩
    rw [← ep]
    refine q _ H gd.rfl ?_
    have : cutD xs lo hi = xs := by
      unfold cutD
      rw [rp.length, hw.1, hw.2, List.drop_zero, Nat.sub_zero, ← rp.length, List.take_length]
    rw [this]
    exact wx'
  | str t =>
    obtain ⟨hl, rfl⟩ := ite_some e
    refine sl_str pins s σ H x v vl vu lo hi sl Q I rx hs pl pu ⟨tx t, wx.str, by rw [tx_len]; exact big_le hl, ?_⟩
    have : cutS (tx t) lo hi = tx (cutD t lo hi) := by
      unfold cutS cutD
      rw [tx_cps, tx_len]
      rfl
    rw [this]
    exact q _ H gd.rfl (rep_str.mpr rfl)
  | _ => cases e
theorem xsl {lo hi : Option Expr} {p2 : Pos} {l h : En → M (Option Int)} (hK : X.K = S.K) (ha : PE X a (tW S fa)) (hl : PO X lo (tO S l)) (hh : PO X hi (tO S h)) : PE X (.Subscript a (.Slice lo hi none p2) pos) (tS S (xSl fa l h)) :=
  pem (pe_slice (sl_D hK) ha hl hh) fun σ H Q ⟨fd, fl, O, ρ, n, R, eg, hf, hq⟩ => ⟨fd, fl, O, ρ, n, _, eg, hf, fun d1 n1 v1 H1 r1 ex1 w1 => ⟨fd, fl, O, ρ, n1, _, eg.ex ex1, r1, fun o2 n2 H2 r2 ex2 => ⟨fd, fl, O, ρ, n2, _, (eg.ex ex1).ex ex2, r2, fun o3 n3 H3 r3 ex3 => by
    obtain ⟨r, e, hr⟩ := lft_iff r3
    have g1 := eg.gd.ex ex1
    exact ⟨fd, fl, O, n3, d1, r, (g1.ex ex2).ex ex3, (w1.ex g1 ex2).ex (g1.ex ex2) ex3, e, fun v H' ex rp => hq r n3 v H' hr (((ex1.trans ex2).trans ex3).trans ex) rp⟩⟩⟩⟩
end
end Pu
set_option Elab.async false
set_option linter.all false
set_option maxRecDepth 100000
set_option maxHeartbeats 4000000
namespace Pu
open PySem PySem.Spec PyProof.Rows L2 Fd Tx
/-! ### calls of built-ins -/
def rC1 (S : Sa) (op : D → Option D) : List V → Hp → VK → Prop := fun xs H Q => ∃ x, xs = [x] ∧ rD1 S op x H Q
def rC2 (S : Sa) (op : D → D → Option D) : List V → Hp → VK → Prop := fun xs H Q => ∃ x y, xs = [x, y] ∧ rD2 S op x y H Q
/-- .. whose answer is new -/
def rD1F (S : Sa) (op : D → Option D) : V → Hp → VK → Prop := fun x H Q => ∃ fd fl O n dx r, Gd (S.gr fd fl) O n H ∧ RepW (S.gr fd fl) O H dx x ∧ op dx = some r ∧ (∀ c xs, r ≠ .obj c xs) ∧
  ∀ p H', H p = none → Ex (S.gr fd fl) n H H' → RepO (S.gr fd fl) (offO O p) H' p r → Q (.ref p) H'
def rC1F (S : Sa) (op : D → Option D) : List V → Hp → VK → Prop := fun xs H Q => ∃ x, xs = [x] ∧ rD1F S op x H Q
section
variable {X : Cx} {S : Sa} {e e2 : Expr} {fa fb : EX} {pos p : Pos} {x : Str} {id : String}
theorem xcallB1 {op : D → Option D} (hc : CallR X (.builtin id) (rC1 S op)) (hg : Gl X x) (hm : X.mg x = none) (hv : bootBuiltins x = some (.builtin id)) (ha : PE X e (tW S fa)) (hn : x ≠ "__name__" := by decide) (hdb : (x == ("__debug__" : Str)) = false := by decide)
    (he : starEach [e] X.env = (false, eval e X.env) :: starEach [] X.env := by rfl) (hpl : (backTo pos (starEach [] X.env)).any (·.1) = false := by rfl) : PE X (.Call (.Name x p) [e] [] pos) (tS S (xUn op fa)) :=
  pem (pe_callB hc hg hm hv (pa_cons ha pa_nil he) hn hdb he hpl) fun σ H Q h => pem1 σ H Q h
where pem1 {op : D → Option D} : ∀ σ H Q, tS S (xUn op fa) σ H Q → tCB (rC1 S op) (tCons (tW S fa) tNil) σ H Q := fun σ H Q ⟨fd, fl, O, ρ, n, R, eg, hf, hq⟩ =>
  ⟨fd, fl, O, ρ, n, _, eg, hf, fun d1 n1 v1 H1 r1 ex1 w1 => by
    obtain ⟨r, e, hr⟩ := lft_iff r1
    exact ⟨v1, rfl, fd, fl, O, n1, d1, r, eg.gd.ex ex1, w1, e, fun v H' ex rp => hq r n1 v H' hr (ex1.trans ex) rp⟩⟩
theorem xcallT1 {op : D → Option D} (hc : CallR X (.type id) (rC1 S op)) (hg : Gl X x) (hm : X.mg x = none) (hv : bootBuiltins x = some (.type id)) (ha : PE X e (tW S fa)) (hn : x ≠ "__name__" := by decide) (hdb : (x == ("__debug__" : Str)) = false := by decide)
    (he : starEach [e] X.env = (false, eval e X.env) :: starEach [] X.env := by rfl) (hpl : (backTo pos (starEach [] X.env)).any (·.1) = false := by rfl) : PE X (.Call (.Name x p) [e] [] pos) (tS S (xUn op fa)) :=
  pem (pe_callTy hc hg hm hv (pa_cons ha pa_nil he) hn hdb he hpl) fun σ H Q h => xcallB1.pem1 σ H Q h
theorem xcallT1F {op : D → Option D} (hc : CallR X (.type id) (rC1F S op)) (hop : ∀ d r, op d = some r → ∀ c xs, r ≠ .obj c xs) (hg : Gl X x) (hm : X.mg x = none) (hv : bootBuiltins x = some (.type id)) (ha : PE X e (tW S fa)) (hn : x ≠ "__name__" := by decide) (hdb : (x == ("__debug__" : Str)) = false := by decide)
    (he : starEach [e] X.env = (false, eval e X.env) :: starEach [] X.env := by rfl) (hpl : (backTo pos (starEach [] X.env)).any (·.1) = false := by rfl) : PE X (.Call (.Name x p) [e] [] pos) (tF S (xUn op fa)) :=
  pem (pe_callTy hc hg hm hv (pa_cons ha pa_nil he) hn hdb he hpl) fun σ H Q ⟨fd, fl, O, ρ, n, R, eg, hf, hq⟩ =>
  ⟨fd, fl, O, ρ, n, _, eg, hf, fun d1 n1 v1 H1 r1 ex1 w1 => by
    obtain ⟨r, e, hr⟩ := lft_iff r1
    refine ⟨v1, rfl, fd, fl, O, n1, d1, r, eg.gd.ex ex1, w1, e, hop _ _ e, fun l H' hl ex rp => ?_⟩
    have g1 := eg.gd.ex ex1
    exact hq r n1 l H' hr (ex1.trans ex) (eg.gd.old ex1 hl) (g1.ne hl) rp (hop _ _ e)⟩
theorem xcallB2 {op : D → D → Option D} (hc : CallR X (.builtin id) (rC2 S op)) (hg : Gl X x) (hm : X.mg x = none) (hv : bootBuiltins x = some (.builtin id)) (ha : PE X e (tW S fa)) (hb : PE X e2 (tW S fb)) (hn : x ≠ "__name__" := by decide) (hdb : (x == ("__debug__" : Str)) = false := by decide)
    (he : starEach [e, e2] X.env = (false, eval e X.env) :: starEach [e2] X.env := by rfl) (he2 : starEach [e2] X.env = (false, eval e2 X.env) :: starEach [] X.env := by rfl) (hpl : (backTo pos (starEach [e2] X.env)).any (·.1) = false := by rfl) : PE X (.Call (.Name x p) [e, e2] [] pos) (tS S (xBin op fa fb)) :=
  pem (pe_callB hc hg hm hv (pa_cons ha (pa_cons hb pa_nil he2) he) hn hdb he hpl) fun σ H Q h => by
    obtain ⟨fd, fl, O, ρ, n, R, eg, hf, hq⟩ := two σ H Q h
    refine ⟨fd, fl, O, ρ, n, R, eg, hf, fun d n' v H' r ex w => ?_⟩
    obtain ⟨fd2, fl2, O2, ρ2, n2, R2, eg2, hf2, hq2⟩ := hq d n' v H' r ex w
    exact ⟨fd2, fl2, O2, ρ2, n2, R2, eg2, hf2, fun d2 n2' v2 H2 r2 ex2 w2 => ⟨v, v2, rfl, hq2 d2 n2' v2 H2 r2 ex2 w2⟩⟩
end
def lenD : D → Option D
  | .str s => if s.length ≤ bigN then some (.int s.length) else none
  | .lst xs => some (.int xs.length)
  | .tup xs => some (.int xs.length)
  | .dic ks _ => some (.int ks.length)
  | _ => none
def absD : D → Option D
  | .int i => some (.int (if i < 0 then -i else i))
  | _ => none
def intOfD : D → Option D
  | .int i => some (.int i)
  | .bl b => some (.int (if b then 1 else 0))
  | _ => none
def minD : D → D → Option D
  | .int a, .int b => some (.int (if b < a then b else a))
  | _, _ => none
def maxD : D → D → Option D
  | .int a, .int b => some (.int (if b > a then b else a))
  | _, _ => none
def listD : D → Option D
  | .lst xs => some (.lst xs)
  | .tup xs => some (.lst xs)
  | .str s => if s.length ≤ 1000 then some (.lst (s.map fun c => .str [c])) else none
  | _ => none
def tupleD : D → Option D
  | .lst xs => some (.tup xs)
  | .tup xs => some (.tup xs)
  | _ => none
def intsOf : List D → Option (List Int)
  | [] => some []
  | .int i :: xs => (intsOf xs).map (i :: ·)
  | _ :: _ => none
def blsOf : List D → Option (List Bool)
  | [] => some []
  | .bl i :: xs => (blsOf xs).map (i :: ·)
  | _ :: _ => none
def txtsOf : List D → Option (List (List Nat))
  | [] => some []
  | .str i :: xs => (txtsOf xs).map (i :: ·)
  | _ :: _ => none
theorem intsOf_map : ∀ ns : List Int, intsOf (ns.map D.int) = some ns
  | [] => rfl
  | n :: ns => by show (intsOf (ns.map D.int)).map (n :: ·) = _; rw [intsOf_map ns]; rfl
theorem blsOf_map : ∀ ns : List Bool, blsOf (ns.map D.bl) = some ns
  | [] => rfl
  | n :: ns => by show (blsOf (ns.map D.bl)).map (n :: ·) = _; rw [blsOf_map ns]; rfl
theorem txtsOf_map : ∀ ns : List (List Nat), txtsOf (ns.map D.str) = some ns
  | [] => rfl
  | n :: ns => by show (txtsOf (ns.map D.str)).map (n :: ·) = _; rw [txtsOf_map ns]; rfl
section
variable {G : Gr} {H : Hp}
theorem intsOf_reps : ∀ {xs : List D} {vs : List V} {ns : List Int}, Reps G H xs vs → intsOf xs = some ns → vs = ns.map V.int ∧ xs = ns.map D.int
  | [], vs, ns, h, e => by cases e; exact ⟨reps_nil.mp h, rfl⟩
  | x :: xs, vs, ns, h, e => by
    obtain ⟨v, r, rfl, h1, h2⟩ := reps_cons.mp h
    cases x <;> first | cases e | skip
    rename_i i
    cases q : intsOf xs with
    | none => rw [intsOf, q] at e; cases e
    | some ms =>
      rw [intsOf, q] at e; cases e
      obtain ⟨e1, e2⟩ := intsOf_reps h2 q
      rw [rep_int.mp h1, e1, e2]
      exact ⟨rfl, rfl⟩
theorem blsOf_reps : ∀ {xs : List D} {vs : List V} {ns : List Bool}, Reps G H xs vs → blsOf xs = some ns → vs = ns.map V.bl ∧ xs = ns.map D.bl
  | [], vs, ns, h, e => by cases e; exact ⟨reps_nil.mp h, rfl⟩
  | x :: xs, vs, ns, h, e => by
    obtain ⟨v, r, rfl, h1, h2⟩ := reps_cons.mp h
    cases x <;> first | cases e | skip
    rename_i i
    cases q : blsOf xs with
    | none => rw [blsOf, q] at e; cases e
    | some ms =>
      rw [blsOf, q] at e; cases e
      obtain ⟨e1, e2⟩ := blsOf_reps h2 q
      rw [rep_bl.mp h1, e1, e2]
      exact ⟨rfl, rfl⟩
theorem txtsOf_reps : ∀ {xs : List D} {vs : List V} {ns : List (List Nat)}, Reps G H xs vs → txtsOf xs = some ns → vs = (ns.map tx).map V.str ∧ xs = ns.map D.str
  | [], vs, ns, h, e => by cases e; exact ⟨reps_nil.mp h, rfl⟩
  | x :: xs, vs, ns, h, e => by
    obtain ⟨v, r, rfl, h1, h2⟩ := reps_cons.mp h
    cases x <;> first | cases e | skip
    rename_i i
    cases q : txtsOf xs with
    | none => rw [txtsOf, q] at e; cases e
    | some ms =>
      rw [txtsOf, q] at e; cases e
      obtain ⟨e1, e2⟩ := txtsOf_reps h2 q
      rw [rep_str.mp h1, e1, e2]
      exact ⟨rfl, rfl⟩
theorem reps_strs : ∀ s : List (List Nat), Reps G H (s.map D.str) ((s.map tx).map V.str)
  | [] => .nil
  | c :: s => .cons (rep_str.mpr rfl) (reps_strs s)
theorem reps_ints : ∀ s : List Int, Reps G H (s.map D.int) (s.map V.int)
  | [] => .nil
  | c :: s => .cons (rep_int.mpr rfl) (reps_ints s)
theorem reps_signs : ∀ s : List Nat, Reps G H (s.map fun c => D.str [c]) (sV s)
  | [] => .nil
  | c :: s => .cons (rep_str.mpr rfl) (reps_signs s)
end
def sumD : D → Option D
  | .lst xs => (intsOf xs).map fun ns => .int ns.sum
  | _ => none
def allD : D → Option D
  | .lst xs => (blsOf xs).map fun ns => .bl (ns.all id)
  | _ => none
def anyD : D → Option D
  | .lst xs => (blsOf xs).map fun ns => .bl (ns.any id)
  | _ => none
def leI (a b : Int) : Bool := decide (a ≤ b)
/-- texts by their codes -/
def leT (a b : List Nat) : Bool := !decide (b < a)
def sortedD : D → Option D
  | .lst xs => match intsOf xs with
    | some ns => some (.lst ((ns.mergeSort leI).map .int))
    | none => (txtsOf xs).bind fun ts => if ts.length < 64 then some (.lst ((ts.mergeSort leT).map .str)) else none
  | _ => none
theorem leI_srt {ms ns : List Int} (h : ms.Perm ns) (s : ms.Pairwise (· ≤ ·)) : ms = ns.mergeSort leI := by
  refine List.Perm.eq_of_pairwise (le := fun a b => leI a b = true) (fun a b _ _ h1 h2 => ?_) ?_ ?_ (h.trans (List.mergeSort_perm ns leI).symm)
  · have h1 := of_decide_eq_true h1
    have h2 := of_decide_eq_true h2
    omega
  · exact s.imp fun h => decide_eq_true h
  · exact List.pairwise_mergeSort (fun a b c h1 h2 => decide_eq_true (by have := of_decide_eq_true h1; have := of_decide_eq_true h2; omega)) (fun a b => by
      rw [Bool.or_eq_true, decide_eq_true_iff, decide_eq_true_iff]
      omega) ns
theorem leT_iff {a b : List Nat} : leT a b = true ↔ a ≤ b := by
  unfold leT
  rw [Bool.not_eq_true', decide_eq_false_iff_not, List.not_lt]
theorem leT_trans (a b c : List Nat) (h1 : leT a b = true) (h2 : leT b c = true) : leT a c = true := leT_iff.mpr (List.le_trans (leT_iff.mp h1) (leT_iff.mp h2))
theorem leT_total (a b : List Nat) : (leT a b || leT b a) = true := by
  rw [Bool.or_eq_true]
  rcases List.le_total a b with h | h
  · exact .inl (leT_iff.mpr h)
  · exact .inr (leT_iff.mpr h)
theorem leT_srt {ms ns : List (List Nat)} (h : ms.Perm ns) (s : ms.Pairwise fun a b => leT a b = true) : ms = ns.mergeSort leT := by
  refine List.Perm.eq_of_pairwise (le := fun a b => leT a b = true) (fun a b _ _ h1 h2 => List.le_antisymm (leT_iff.mp h1) (leT_iff.mp h2)) s ?_ (h.trans (List.mergeSort_perm ns leT).symm)
  exact List.pairwise_mergeSort leT_trans leT_total ns

theorem sortedS_pw : ∀ {ys : List Str}, sortedS ys = true → (ys.map fun y => y.cps.toList).Pairwise fun a b => leT a b = true := by
  have key : ∀ (ys : List Str) (p : Str), risingS p ys = true → (∀ y ∈ ys, leT p.cps.toList y.cps.toList = true) ∧ (ys.map fun y => y.cps.toList).Pairwise fun a b => leT a b = true := by
    intro ys
    induction ys with
    | nil => intro p _; exact ⟨(fun _ h => by cases h), List.Pairwise.nil⟩
    | cons x r ih =>
      intro p h
      have h' : (!ltCps x.cps.toList p.cps.toList && risingS x r) = true := h
      obtain ⟨h1, h2⟩ := Bool.and_eq_true_iff.mp h'
      obtain ⟨i1, i2⟩ := ih x h2
      have hp : leT p.cps.toList x.cps.toList = true := by
        rw [ltCps_eq] at h1
        exact h1
      refine ⟨fun y hy => ?_, ?_⟩
      · rcases List.mem_cons.mp hy with rfl | hy
        · exact hp
        · exact leT_trans _ _ _ hp (i1 y hy)
      · rw [List.map_cons, List.pairwise_cons]
        refine ⟨fun z hz => ?_, i2⟩
        obtain ⟨y, hy, rfl⟩ := List.mem_map.mp hz
        exact i1 y hy
  intro ys h
  cases ys with
  | nil => exact List.Pairwise.nil
  | cons x r =>
    obtain ⟨i1, i2⟩ := key r x h
    rw [List.map_cons, List.pairwise_cons]
    refine ⟨fun z hz => ?_, i2⟩
    obtain ⟨y, hy, rfl⟩ := List.mem_map.mp hz
    exact i1 y hy
section
variable {X : Cx} {S : Sa}
theorem cr1 {f : Value} {op : D → Option D} {r : List V → Hp → VK → Prop} (h : CallR X f r) (hr : ∀ fd fl O n H dx x d Q, Gd (S.gr fd fl) O n H → RepW (S.gr fd fl) O H dx x → op dx = some d → (∀ v H', Ex (S.gr fd fl) n H H' → Rep (S.gr fd fl) (hid O H') d v → Q v H') → r [x] H Q) : CallR X f (rC1 S op) := by
  intro pins s σ H xs us Q I rv hx
  obtain ⟨x, rfl, fd, fl, O, n, dx, d, gd, wx, e, q⟩ := hx
  exact h pins s σ H [x] us Q I rv (hr fd fl O n H dx x d Q gd wx e q)
theorem cr2 {f : Value} {op : D → D → Option D} {r : List V → Hp → VK → Prop} (h : CallR X f r) (hr : ∀ fd fl O n H dx dy x y d Q, Gd (S.gr fd fl) O n H → RepW (S.gr fd fl) O H dx x → RepW (S.gr fd fl) O H dy y → op dx dy = some d → (∀ v H', Ex (S.gr fd fl) n H H' → Rep (S.gr fd fl) (hid O H') d v → Q v H') → r [x, y] H Q) : CallR X f (rC2 S op) := by
  intro pins s σ H xs us Q I rv hx
  obtain ⟨x, y, rfl, fd, fl, O, n, dx, dy, d, gd, wx, wy, e, q⟩ := hx
  exact h pins s σ H [x, y] us Q I rv (hr fd fl O n H dx dy x y d Q gd wx wy e q)
theorem cr_lenD (hK : X.K = S.K) : CallR X (.builtin "len") (rC1 S lenD) := by
  intro pins s σ H xs us Q I rv hx
  obtain ⟨x, rfl, fd, fl, O, n, dx, d, gd, wx, e, q⟩ := hx
  cases dx with
  | str t =>
    obtain ⟨hl, rfl⟩ := ite_some e
    exact call_len_str pins s σ H _ us Q I rv ⟨tx t, by rw [wx.str], by rw [tx_len]; exact big_le hl, by rw [tx_len]; exact q _ H gd.rfl (rep_int.mpr rfl)⟩
  | lst xs =>
    cases e
    obtain ⟨p, vs, rfl, hp, rp⟩ := wx.lst
    exact call_len_seq pins s σ H _ us Q I rv ⟨p, vs, rfl, .inl (SqL.of hp), by rw [← rp.length]; exact q _ H gd.rfl (rep_int.mpr rfl)⟩
  | tup xs =>
    cases e
    obtain ⟨p, vs, rfl, hp, rp⟩ := wx.tup
    exact call_len_seq pins s σ H _ us Q I rv ⟨p, vs, rfl, .inr (by rw [hK]; exact hp), by rw [← rp.length]; exact q _ H gd.rfl (rep_int.mpr rfl)⟩
  | dic ks xs =>
    cases e
    obtain ⟨p, vs, rfl, hp, hl, rp⟩ := wx.dic
    obtain ⟨u, rfl, ru⟩ := vals1 rv
    cases ru
    refine d_len I hp fun t s' I' => ⟨.int _, H, I', ⟨t, rfl⟩, ?_⟩
    rw [List.length_zip, List.length_map, hl, Nat.min_self, ← hl]
    exact q _ H gd.rfl (rep_int.mpr rfl)
  | _ => cases e
theorem cr_absD : CallR X (.builtin "abs") (rC1 S absD) := cr1 call_abs fun fd fl O n H dx x d Q gd wx e q => by
  cases dx <;> first | cases e | skip
  exact ⟨_, by rw [wx.int], q _ H gd.rfl (rep_int.mpr rfl)⟩
theorem cr_intD : CallR X (.type "int") (rC1 S intOfD) := cr1 call_int1 fun fd fl O n H dx x d Q gd wx e q => by
  cases dx <;> first | cases e | skip
  · exact .inr ⟨_, by rw [wx.bl], q _ H gd.rfl (rep_int.mpr rfl)⟩
  · exact .inl ⟨_, by rw [wx.int], q _ H gd.rfl (rep_int.mpr rfl)⟩
theorem cr_minD (hc : X.calm = true) : CallR X (.builtin "min") (rC2 S minD) := cr2 (call_min2 hc) fun fd fl O n H dx dy x y d Q gd wx wy e q => by
  cases dx <;> cases dy <;> first | cases e | skip
  exact ⟨_, _, by rw [wx.int, wy.int], q _ H gd.rfl (rep_int.mpr rfl)⟩
theorem cr_maxD (hc : X.calm = true) : CallR X (.builtin "max") (rC2 S maxD) := cr2 (call_max2 hc) fun fd fl O n H dx dy x y d Q gd wx wy e q => by
  cases dx <;> cases dy <;> first | cases e | skip
  exact ⟨_, _, by rw [wx.int, wy.int], q _ H gd.rfl (rep_int.mpr rfl)⟩
theorem cr_sumD (hK : X.K = S.K) (hc : X.calm = true) : CallR X (.builtin "sum") (rC1 S sumD) := cr1 (cr_sum hc) fun fd fl O n H dx x d Q gd wx e q => by
  cases dx <;> first | cases e | skip
  rename_i xs
  obtain ⟨p, vs, rfl, hp, rp⟩ := wx.lst
  cases hi : intsOf xs with
  | none => rw [sumD, hi] at e; cases e
  | some ns =>
    rw [sumD, hi] at e; cases e
    obtain ⟨rfl, _⟩ := intsOf_reps rp hi
    exact ⟨p, ns, rfl, SqL.of hp, q _ H gd.rfl (rep_int.mpr rfl)⟩
theorem cr_allD (hK : X.K = S.K) (hc : X.calm = true) : CallR X (.builtin "all") (rC1 S allD) := cr1 (cr_all hc) fun fd fl O n H dx x d Q gd wx e q => by
  cases dx <;> first | cases e | skip
  rename_i xs
  obtain ⟨p, vs, rfl, hp, rp⟩ := wx.lst
  cases hi : blsOf xs with
  | none => rw [allD, hi] at e; cases e
  | some ns =>
    rw [allD, hi] at e; cases e
    obtain ⟨rfl, _⟩ := blsOf_reps rp hi
    exact ⟨p, ns, rfl, SqL.of hp, q _ H gd.rfl (rep_bl.mpr rfl)⟩
theorem cr_anyD (hK : X.K = S.K) (hc : X.calm = true) : CallR X (.builtin "any") (rC1 S anyD) := cr1 (cr_any hc) fun fd fl O n H dx x d Q gd wx e q => by
  cases dx <;> first | cases e | skip
  rename_i xs
  obtain ⟨p, vs, rfl, hp, rp⟩ := wx.lst
  cases hi : blsOf xs with
  | none => rw [anyD, hi] at e; cases e
  | some ns =>
    rw [anyD, hi] at e; cases e
    obtain ⟨rfl, _⟩ := blsOf_reps rp hi
    exact ⟨p, ns, rfl, SqL.of hp, q _ H gd.rfl (rep_bl.mpr rfl)⟩
theorem cr_sortedD : CallR X (.builtin "sorted") (rC1 S sortedD) := by
  intro pins s σ H xs us Q I rv hx
  obtain ⟨x, rfl, fd, fl, O, n, dx, d, gd, wx, e, q⟩ := hx
  cases dx <;> first | cases e | skip
  rename_i xs
  obtain ⟨p, vs, rfl, hp, rp⟩ := wx.lst
  cases hi : intsOf xs with
  | some ns =>
    rw [sortedD, hi] at e; cases e
    obtain ⟨rfl, _⟩ := intsOf_reps rp hi
    refine cr_sortedI pins s σ H _ us Q I rv ⟨p, ns, rfl, SqL.of hp, fun ns' l h1 h2 hl => ?_⟩
    rw [leI_srt h1 h2]
    exact q _ _ (gd.new hl) (new_lst gd hl (reps_ints _))
  | none =>
    cases ht : txtsOf xs with
    | none =>
      rw [sortedD, hi] at e
      have e' : ((txtsOf xs).bind fun ts => if ts.length < 64 then some (D.lst ((ts.mergeSort leT).map .str)) else none) = some d := e
      rw [ht] at e'; cases e'
    | some ts =>
      rw [sortedD, hi] at e
      have e' : ((txtsOf xs).bind fun ts => if ts.length < 64 then some (D.lst ((ts.mergeSort leT).map .str)) else none) = some d := e
      rw [ht] at e'
      obtain ⟨h64, rfl⟩ := ite_some e'
      obtain ⟨rfl, _⟩ := txtsOf_reps rp ht
      refine cr_sortedS pins s σ H _ us Q I rv ⟨p, ts.map tx, rfl, SqL.of hp, by rw [List.length_map]; exact h64, fun ys l h1 h2 hl => ?_⟩
      have e1 : ys.map (fun y => y.cps.toList) = ts.mergeSort leT := by
        refine leT_srt ?_ (sortedS_pw h2)
        have := h1.map fun y : Str => y.cps.toList
        rw [List.map_map] at this
        have e2 : ts.map ((fun y : Str => y.cps.toList) ∘ tx) = ts := by
          conv => rhs; rw [← List.map_id ts]
          exact List.map_congr_left fun t _ => tx_cps t
        rwa [e2] at this
      have e3 : ys = (ts.mergeSort leT).map tx := by
        rw [← e1, List.map_map]
        conv => lhs; rw [← List.map_id ys]
        exact List.map_congr_left fun y _ => tx_of y
      rw [e3]
      exact q _ _ (gd.new hl) (new_lst gd hl (reps_strs _))
theorem listD_no {d r : D} (h : listD d = some r) : ∀ c xs, r ≠ .obj c xs := by
  cases d <;> first | cases h | skip
  · obtain ⟨_, rfl⟩ := ite_some h; exact fun _ _ z => nomatch z
  · exact fun _ _ z => nomatch z
  · exact fun _ _ z => nomatch z
theorem cr_listD (hK : X.K = S.K) (hc : X.calm = true) : CallR X (.type "list") (rC1F S listD) := by
  intro pins s σ H xs us Q I rv hx
  obtain ⟨x, rfl, fd, fl, O, n, dx, d, gd, wx, e, ho, q⟩ := hx
  cases dx with
  | lst xs =>
    cases e
    obtain ⟨p, vs, rfl, hp, rp⟩ := wx.lst
    exact call_list_of pins s σ H _ us Q I rv ⟨p, vs, rfl, .inl (SqL.of hp), fun l hl => q l _ hl (gd.new hl) (own_lst hl rp)⟩
  | tup xs =>
    cases e
    obtain ⟨p, vs, rfl, hp, rp⟩ := wx.tup
    exact call_list_of pins s σ H _ us Q I rv ⟨p, vs, rfl, .inr (by rw [hK]; exact hp), fun l hl => q l _ hl (gd.new hl) (own_lst hl rp)⟩
  | str t =>
    obtain ⟨hl, rfl⟩ := ite_some e
    exact call_list_tx hc pins s σ H _ us Q I rv ⟨t, by rw [wx.str], hl, fun l hl => q l _ hl (gd.new hl) (own_lst hl (reps_signs t))⟩
  | _ => cases e
theorem cr_tupleD (hK : X.K = S.K) : CallR X (.type "tuple") (rC1 S tupleD) := cr1 call_tuple_of fun fd fl O n H dx x d Q gd wx e q => by
  cases dx with
  | lst xs =>
    cases e
    obtain ⟨p, vs, rfl, hp, rp⟩ := wx.lst
    exact ⟨p, vs, rfl, .inl ⟨SqL.of hp, fun l hl => q _ _ (gd.new hl) (new_tup gd hl rp)⟩⟩
  | tup xs =>
    cases e
    have wx' : Rep (S.gr fd fl) (hid O H) (.tup xs) x := by
      rcases wx with h | ⟨p, _, _, _, h4, _⟩
      · exact h
      · exact h4.elim
    obtain ⟨p, vs, rfl, hp, rp⟩ := wx.tup
    exact ⟨p, vs, rfl, .inr ⟨by rw [hK]; exact hp, q _ H gd.rfl wx'⟩⟩
  | _ => cases e
end
end Pu
set_option Elab.async false
set_option linter.all false
set_option maxRecDepth 100000
set_option maxHeartbeats 4000000
namespace Pu
open PySem PySem.Spec PyProof.Rows L2 Fd Tx
/-! ### isinstance -/
inductive Tn where
  | int | bool | str | list | tuple | dict
def Tn.nm : Tn → String
  | .int => "int"
  | .bool => "bool"
  | .str => "str"
  | .list => "list"
  | .tuple => "tuple"
  | .dict => "dict"
def tyName : D → Option String
  | .non => some "NoneType"
  | .bl _ => some "bool"
  | .int _ => some "int"
  | .str _ => some "str"
  | .lst _ => some "list"
  | .tup _ => some "tuple"
  | .dic _ _ => some "dict"
  | _ => none
def isiB : Tn → D → Option Bool
  | .int, .int _ => some true
  | .int, .bl _ => some true
  | .bool, .bl _ => some true
  | .str, .str _ => some true
  | .list, .lst _ => some true
  | .tuple, .tup _ => some true
  | .dict, .dic _ _ => some true
  | _, .dct _ _ => none
  | _, .obj _ _ => none
  | _, .feed => none
  | _, _ => some false
theorem isiB_kit {t : Tn} {d : D} {b : Bool} (h : isiB t d = some b) : ∃ a, tyName d = some a ∧ kitB a t.nm = some b := by
  cases t <;> cases d <;> first
    | (cases h; done)
    | (cases h; exact ⟨_, rfl, by decide +kernel⟩)
theorem tyX_of {G : Gr} {O : Addr → Bool} {H : Hp} {d : D} {v : V} {a : String} (w : RepW G O H d v) (h : tyName d = some a) : TyX G.K H v (.type a) := by
  cases d with
  | non => cases h; rw [w.non]; exact .base .non
  | bl b => cases h; rw [w.bl]; exact .base (.bl _)
  | int i => cases h; rw [w.int]; exact .base (.int _)
  | str s => cases h; rw [w.str]; exact .base (.str _)
  | lst xs => cases h; obtain ⟨p, vs, rfl, hp, _⟩ := w.lst; exact .base (.lst hp)
  | tup xs =>
    cases h
    obtain ⟨p, vs, rfl, hp, _⟩ := w.tup
    rcases hp with (hp | ⟨o, hp⟩) | ⟨o, its, n, hk, hc, _⟩
    · exact .base (.tup hp)
    · exact .fTuple hp
    · exact .kTuple hk hc
  | dic ks xs =>
    cases h
    obtain ⟨p, vs, rfl, hp, _⟩ := w.dic
    rcases hp with hp | ⟨o, hp⟩
    · exact .base (.dK hp)
    · exact .fDict hp
  | _ => cases h
def isiD (t : Tn) (d : D) : Option D := (isiB t d).map .bl
/-- isinstance of an own class -/
def isiC (c : Nat) : D → Option D
  | .obj c' _ => if c' = c then some (.bl true) else none
  | _ => none
def isi2B (t u : Tn) (d : D) : Option D := match isiB t d, isiB u d with
  | some a, some b => some (.bl (a || b))
  | _, _ => none
section
variable {X : Cx} {S : Sa} {e e2 : Expr} {fa fb : EX} {pos p : Pos} {x : Str}
theorem xisi {t : Tn} (hK : X.K = S.K) (hg : Gl X "isinstance") (hm : X.mg "isinstance" = none) (ha : PE X e (tW S fa)) (ht : PE X e2 (tC (.ty t.nm)))
    (he : starEach [e, e2] X.env = (false, eval e X.env) :: starEach [e2] X.env := by rfl) (he2 : starEach [e2] X.env = (false, eval e2 X.env) :: starEach [] X.env := by rfl) (hpl : (backTo pos (starEach [e2] X.env)).any (·.1) = false := by rfl) :
    PE X (.Call (.Name "isinstance" p) [e, e2] [] pos) (tS S (xUn (isiD t) fa)) :=
  pem (pe_callB call_isi hg hm (by decide +kernel) (pa_cons ha (pa_cons ht pa_nil he2) he) (by decide) (by decide) he hpl) fun σ H Q ⟨fd, fl, O, ρ, n, R, eg, hf, hq⟩ =>
  ⟨fd, fl, O, ρ, n, _, eg, hf, fun d1 n1 v1 H1 r1 ex1 w1 => by
    obtain ⟨r, e, hr⟩ := lft_iff r1
    unfold isiD at e
    cases hb : isiB t d1 with
    | none => rw [hb] at e; cases e
    | some b =>
      rw [hb] at e; cases e
      obtain ⟨a, h1, h2⟩ := isiB_kit hb
      exact ⟨v1, .ty t.nm, _, _, b, rfl, .ty _, by rw [hK]; exact tyX_of w1 h1, kit_ty h2, hq _ n1 _ H1 hr ex1 (rep_bl.mpr rfl)⟩⟩
theorem xisi2 {t u : Tn} {p1 p2 p3 : Pos} {z1 z2 : Str} {x1} (hK : X.K = S.K) (hg : Gl X "isinstance") (hm : X.mg "isinstance" = none) (ha : PE X e (tW S fa)) (h1 : PE X (.Name z1 p1) (tC (.ty t.nm))) (h2 : PE X (.Name z2 p2) (tC (.ty u.nm)))
    (hs1 : starEach [.Name z1 p1, .Name z2 p2] X.env = (false, eval (.Name z1 p1) X.env) :: starEach [.Name z2 p2] X.env := by rfl) (hs2 : starEach [.Name z2 p2] X.env = (false, eval (.Name z2 p2) X.env) :: starEach [] X.env := by rfl)
    (he : starEach [e, .Tuple [.Name z1 p1, .Name z2 p2] x1 p3] X.env = (false, eval e X.env) :: starEach [.Tuple [.Name z1 p1, .Name z2 p2] x1 p3] X.env := by rfl)
    (he2 : starEach [.Tuple [.Name z1 p1, .Name z2 p2] x1 p3] X.env = (false, eval (.Tuple [.Name z1 p1, .Name z2 p2] x1 p3) X.env) :: starEach [] X.env := by rfl) (hpl : (backTo pos (starEach [.Tuple [.Name z1 p1, .Name z2 p2] x1 p3] X.env)).any (·.1) = false := by rfl) :
    PE X (.Call (.Name "isinstance" p) [e, .Tuple [.Name z1 p1, .Name z2 p2] x1 p3] [] pos) (tS S (xUn (isi2B t u) fa)) :=
  pem (pe_callB call_isiT hg hm (by decide +kernel) (pa_cons ha (pa_cons (pe_tup (pa_cons h1 (pa_cons h2 pa_nil hs2) hs1)) pa_nil he2) he) (by decide) (by decide) he hpl) fun σ H Q ⟨fd, fl, O, ρ, n, R, eg, hf, hq⟩ =>
  ⟨fd, fl, O, ρ, n, _, eg, hf, fun d1 n1 v1 H1 r1 ex1 w1 => by
    obtain ⟨r, e, hr⟩ := lft_iff r1
    unfold isi2B at e
    cases ha : isiB t d1 with
    | none => rw [ha] at e; cases e
    | some a =>
      cases hb : isiB u d1 with
      | none => rw [ha, hb] at e; cases e
      | some b =>
        rw [ha, hb] at e; cases e
        obtain ⟨s1, k1, k2⟩ := isiB_kit ha
        obtain ⟨s2, k3, k4⟩ := isiB_kit hb
        rw [k1] at k3; cases k3
        refine ⟨by show 2 ≤ sizeLine; decide, fun l hl => ?_⟩
        have g1 := eg.gd.ex ex1
        have w2 := w1.ex g1 (g1.new (p := l) (o := .tup [.ty t.nm, .ty u.nm]) hl)
        refine ⟨v1, l, [.ty t.nm, .ty u.nm], _, [.type t.nm, .type u.nm], a || b, rfl, upd_same, .cons (.ty _) (.cons (.ty _) .nil), by rw [hK]; exact tyX_of w2 k1, ?_, hq _ n1 _ _ hr (ex1.trans (g1.new hl)) (rep_bl.mpr rfl)⟩
        refine kitAny_cons (kit_ty k2) (fun e => ?_) (fun e => by rw [e]; rfl)
        subst e
        refine kitAny_cons (kit_ty k4) (fun e => ?_) (fun e => by rw [e]; rfl)
        subst e
        exact kitAny_nil⟩
theorem xisc {c : Nat} (hK : X.K = S.K) (hc : C8.InsC X.K (S.cls c)) (hg : Gl X "isinstance") (hm : X.mg "isinstance" = none) (ha : PE X e (tW S fa)) (ht : PE X e2 (tC (.ref (S.cls c))))
    (he : starEach [e, e2] X.env = (false, eval e X.env) :: starEach [e2] X.env := by rfl) (he2 : starEach [e2] X.env = (false, eval e2 X.env) :: starEach [] X.env := by rfl) (hpl : (backTo pos (starEach [e2] X.env)).any (·.1) = false := by rfl) :
    PE X (.Call (.Name "isinstance" p) [e, e2] [] pos) (tS S (xUn (isiC c) fa)) :=
  pem (pe_callB (C8.call_isC hc) hg hm (by decide +kernel) (pa_cons ha (pa_cons ht pa_nil he2) he) (by decide) (by decide) he hpl) fun σ H Q ⟨fd, fl, O, ρ, n, R, eg, hf, hq⟩ =>
  ⟨fd, fl, O, ρ, n, _, eg, hf, fun d1 n1 v1 H1 r1 ex1 w1 => by
    obtain ⟨r, e, hr⟩ := lft_iff r1
    cases d1 <;> first | cases e | skip
    obtain ⟨rfl, rfl⟩ := ite_some e
    obtain ⟨a, dx, vs, rfl, h2, _⟩ := w1.obj
    exact ⟨a, dx, _, rfl, h2, hq _ n1 _ H1 hr ex1 (rep_bl.mpr rfl)⟩⟩
/-! ### fields -/
def fldD (c i : Nat) : D → Option D
  | .obj c' xs => if c' = c then xs[i]? else none
  | _ => none
theorem lookup_zip : ∀ {ns : List Str} {vs : List V} {i : Nat} {f : Str} {v : V}, ns.Nodup → ns[i]? = some f → vs[i]? = some v → (ns.zip vs).lookup f = some v
  | [], vs, i, f, v, _, e, _ => by simp at e
  | a :: ns, [], i, f, v, _, _, e => by simp at e
  | a :: ns, w :: vs, 0, f, v, _, e1, e2 => by
    simp at e1 e2
    subst e1 e2
    show List.lookup a ((a, w) :: ns.zip vs) = some w
    rw [List.lookup_cons]
    simp
  | a :: ns, w :: vs, i + 1, f, v, hd, e1, e2 => by
    have hd' := List.nodup_cons.mp hd
    have e1' : ns[i]? = some f := by simpa using e1
    have hne : (f == a) = false := by
      rw [beq_eq_false_iff_ne]
      rintro rfl
      exact hd'.1 (List.mem_of_getElem? e1')
    show List.lookup f ((a, w) :: ns.zip vs) = some v
    rw [List.lookup_cons, hne]
    exact lookup_zip hd'.2 e1' (by simpa using e2)
/-- what is known of a class: no descriptor of a field's name -/
structure ClsOk (S : Sa) (c : Nat) : Prop where
  ins : C8.InsC S.K (S.cls c)
  nd : (S.nms c).Nodup
  no : ∀ f ∈ S.nms c, NoAttr S.K (S.cls c) f
  few : (S.nms c).length < 1000
theorem xfld {c i : Nat} {f : Str} (hK : X.K = S.K) (hc : ClsOk S c) (hi : (S.nms c)[i]? = some f) (he : PE X e (tW S fa)) (hb : attributeBase e f X.env (eval e X.env) = eval e X.env := by rfl) : PE X (.Attribute e f pos) (tS S (xUn (fldD c i) fa)) :=
  pem (pe_fld he hb) fun σ H Q ⟨fd, fl, O, ρ, n, R, eg, hf, hq⟩ => ⟨fd, fl, O, ρ, n, _, eg, hf, fun d1 n1 v1 H1 r1 ex1 w1 => by
    obtain ⟨r, e, hr⟩ := lft_iff r1
    cases d1 <;> first | cases e | skip
    rename_i c' xs
    have e' : (if c' = c then xs[i]? else none) = some r := e
    by_cases hcc : c' = c
    · subst hcc
      rw [if_pos rfl] at e'
      obtain ⟨a, dx, vs, rfl, h2, h3, h4⟩ := w1.obj
      obtain ⟨v, hv, rv⟩ := h4.get e'
      exact ⟨a, S.cls c', dx, _, v, rfl, h2, by rw [hK]; exact hc.ins.cl, by rw [hK]; exact hc.no f (List.mem_of_getElem? hi), lookup_zip hc.nd hi hv, hq r n1 v H1 hr ex1 rv⟩
    · rw [if_neg hcc] at e'; cases e'⟩
/-- a field of an object of one's own, the name in the j-th slot -/
def getO (ρ : En) (j c i : Nat) : Option D := match ρ[j]? with
  | some (.ow (.obj c' xs)) => if c' = c then xs[i]? else none
  | _ => none
def xFldO (j c i : Nat) : EX := fun ρ => lft (getO ρ j c i)
theorem xfldo {j c i : Nat} {f x : Str} {p' : Pos} (hK : X.K = S.K) (hc : ClsOk S c) (hi : (S.nms c)[i]? = some f) (he : PE X (.Name x p') (tVar j)) (hb : attributeBase (.Name x p') f X.env (eval (.Name x p') X.env) = eval (.Name x p') X.env := by rfl) : PE X (.Attribute (.Name x p') f pos) (tS S (xFldO j c i)) :=
  pem (pe_fld he hb) fun σ H Q ⟨fd, fl, O, ρ, n, R, eg, hf, hq⟩ => by
    obtain ⟨d, e, hr⟩ := lft_iff hf
    unfold getO at e
    split at e
    · rename_i c' xs e'
      by_cases hcc : c' = c
      · subst hcc
        rw [if_pos rfl] at e
        obtain ⟨p, h1, h2, h3, dx, vs, h4, h5, h6⟩ := eg.ow j _ e'
        obtain ⟨v, hv, rv⟩ := h6.get e
        exact ⟨_, h1, p, S.cls c', dx, _, v, rfl, h4, by rw [hK]; exact hc.ins.cl, by rw [hK]; exact hc.no f (List.mem_of_getElem? hi), lookup_zip hc.nd hi hv, hq d n v H hr eg.gd.rfl rv⟩
      · rw [if_neg hcc] at e; cases e
    · cases e
/-! ### methods of built-in types, one argument -/
def isT : Tn → D → Bool
  | .str, .str _ => true
  | .list, .lst _ => true
  | _, _ => false
def xBM (t : Tn) (op : D → D → Option D) (a b : EX) : EX := fun ρ => bnd (a ρ) fun x => if isT t x = true then bnd (b ρ) fun y => lft (op x y) else nay
def rM1 (S : Sa) (op : D → D → Option D) : V → List V → Hp → VK → Prop := fun x xs H Q => ∃ y, xs = [y] ∧ rD2 S op x y H Q
theorem isT_tyV {K : PySem.W.Frag} {G : Gr} {O : Addr → Bool} {H : Hp} {d : D} {v : V} {t : Tn} (w : RepW G O H d v) (h : isT t d = true) : tyV K t.nm v H := by
  cases t <;> cases d <;> first
    | (cases h; done)
    | (rw [w.str]; exact rfl)
    | (obtain ⟨p, vs, rfl, hp, _⟩ := w.lst; exact .inl ⟨rfl, vs, SqL.of hp⟩)
theorem xbm1 {o : Expr} {name : Str} {apos cpos : Pos} {id : String} {t : Tn} {op : D → D → Option D} (pa : PlainAttrs t.nm) (slot : Slot t.nm name id) (hty : typeOf (.builtin id) = pure (.type "method_descriptor")) (hm : MtR X id (rM1 S op)) (ho : PE X o (tW S fa)) (ha : PE X e (tW S fb))
    (hbase : attributeBase o name X.env (eval o X.env) = eval o X.env := by rfl)
    (hfew : ((backTo cpos (starEach [e] X.env)).all (fun x => !x.1) && (backToKw cpos (keywordEach [] X.env)).all (fun x => x.1.isSome)
      && decide ([e].length + ([] : List Keyword).length + (if ([] : List Keyword).isEmpty then 0 else 1) < 30)) = true := by rfl)
    (hline : (apos.endLine == cpos.line) = true := by rfl) (hs : starEach [e] X.env = (false, eval e X.env) :: starEach [] X.env := by rfl) (hplain : (backTo cpos (starEach [] X.env)).any (·.1) = false := by rfl) :
    PE X (.Call (.Attribute o name apos) [e] [] cpos) (tS S (xBM t op fa fb)) :=
  pem (pe_bm pa slot hty hm ho (pa_cons ha pa_nil hs) hbase hfew hline hs hplain) fun σ H Q ⟨fd, fl, O, ρ, n, R, eg, hf, hq⟩ => ⟨fd, fl, O, ρ, n, _, eg, hf, fun d1 n1 v1 H1 r1 ex1 w1 => by
    have g1 := eg.gd.ex ex1
    have r1' : (if isT t d1 = true then bnd (fb ρ) fun y => lft (op d1 y) else nay) n1 R NoX := r1
    by_cases hT : isT t d1 = true
    · rw [if_pos hT] at r1'
      refine ⟨isT_tyV w1 hT, fd, fl, O, ρ, n1, _, eg.ex ex1, r1', fun d2 n2 v2 H2 r2 ex2 w2 => ?_⟩
      obtain ⟨r, e, hr⟩ := lft_iff r2
      exact ⟨v2, rfl, fd, fl, O, n2, d1, d2, r, g1.ex ex2, w1.ex g1 ex2, w2, e, fun v H' ex rp => hq r n2 v H' hr ((ex1.trans ex2).trans ex) rp⟩
    · rw [if_neg hT] at r1'
      exact r1'.elim⟩
def joinD : D → D → Option D
  | .str s, .lst xs => (txtsOf xs).bind fun ts => if (ts.map (·.length)).sum + ts.length * s.length ≤ bigN then some (.str (s.intercalate ts)) else none
  | .str s, .tup xs => (txtsOf xs).bind fun ts => if (ts.map (·.length)).sum + ts.length * s.length ≤ bigN then some (.str (s.intercalate ts)) else none
  | _, _ => none
theorem glued_tx (s : List Nat) : ∀ ts : List (List Nat), Txt.join (tx s) (ts.map tx) = tx (s.intercalate ts) := by
  intro ts
  unfold Txt.join
  rw [StrLaws.glued_eq_join]
  induction ts with
  | nil => rfl
  | cons t ts ih =>
    cases ts with
    | nil =>
      show tx t = tx (s.intercalate [t])
      simp [List.intercalate]
    | cons u us =>
      show tx t ++ tx s ++ Str.join (tx s) ((u :: us).map tx) = _
      rw [ih, tx_app, tx_app]
      congr 1
      simp [List.intercalate, List.intersperse]
theorem mt_joinD (hK : X.K = S.K) : MtR X "str.join" (rM1 S joinD) := by
  intro pins s σ H x xs v us Q I rx rv h
  obtain ⟨y, rfl, fd, fl, O, n, dx, dy, r, gd, wx, wy, e, q⟩ := h
  cases dx <;> first | (cases dy <;> cases e; done) | skip
  rename_i sp
  have main : ∀ (l : List D) (p : Addr) (vs : List V), y = .ref p → (SqL X.K H p vs ∨ SqT X.K H p vs) → Reps (S.gr fd fl) (hid O H) l vs → ((txtsOf l).bind fun ts => if (ts.map (·.length)).sum + ts.length * sp.length ≤ bigN then some (D.str (sp.intercalate ts)) else none) = some r →
      wpAny (model X.prog X.w) X.A (call (.builtin "str.join") (v :: us)) (EP X pins σ Q) X.xe s := by
    intro l p vs ey hq rp e
    cases ht : txtsOf l with
    | none => rw [ht] at e; cases e
    | some ts =>
      rw [ht] at e
      obtain ⟨hl, rfl⟩ := ite_some e
      obtain ⟨rfl, _⟩ := txtsOf_reps rp ht
      refine mt_join pins s σ H x _ v us Q I rx rv ⟨tx sp, p, ts.map tx, wx.str, by rw [ey], hq, ?_, ?_⟩
      · rw [List.length_map, tx_len, List.map_map]
        have e2 : ts.map ((fun x : Str => x.length) ∘ tx) = ts.map (·.length) := List.map_congr_left fun t _ => tx_len t
        rw [e2]
        exact Nat.le_trans hl (by decide)
      · rw [glued_tx]
        exact q _ H gd.rfl (rep_str.mpr rfl)
  cases dy <;> first | (cases e; done) | skip
  · obtain ⟨p, vs, ep, hp, rp⟩ := wy.tup
    exact main _ p vs ep (.inr (by rw [hK]; exact hp)) rp e
  · obtain ⟨p, vs, ep, hp, rp⟩ := wy.lst
    exact main _ p vs ep (.inl (SqL.of hp)) rp e
/-- s.index(c), c one sign; xs.index(y) of plain data -/
def sidxD : D → D → Option D
  | .str s, .str [c] => if c ∈ s then some (.int (s.idxOf c)) else none
  | _, _ => none
theorem mt_sidxD : MtR X "str.index" (rM1 S sidxD) := by
  intro pins s σ H x xs v us Q I rx rv h
  obtain ⟨y, rfl, fd, fl, O, n, dx, dy, r, gd, wx, wy, e, q⟩ := h
  have : ∃ t c, dx = .str t ∧ dy = .str [c] := by
    cases dx <;> first | (cases dy <;> cases e; done) | skip
    cases dy <;> first | (cases e; done) | skip
    rename_i t u
    cases u with
    | nil => cases e
    | cons c u => cases u with
      | nil => exact ⟨t, c, rfl, rfl⟩
      | cons _ _ => cases e
  obtain ⟨t, c, rfl, rfl⟩ := this
  obtain ⟨hc, rfl⟩ := ite_some (show (if c ∈ t then some (D.int (t.idxOf c)) else none) = some r from e)
  have hl := List.idxOf_lt_length_of_mem hc
  refine mt_idx1 pins s σ H x _ v us Q I rx rv ⟨t, c, t.idxOf c, wx.str, by rw [wy.str]; rfl, ?_, ?_, q _ H gd.rfl (rep_int.mpr rfl)⟩
  · rw [List.getElem?_eq_getElem hl]
    exact congrArg some (List.getElem_idxOf hl)
  · intro j hj e
    have := List.not_of_lt_findIdx (p := (· == c)) (xs := t) hj
    rw [(List.getElem?_eq_some_iff.mp e).2] at this
    simp at this
end
end Pu
set_option Elab.async false
set_option linter.all false
set_option maxRecDepth 100000
set_option maxHeartbeats 4000000
namespace Pu
open PySem PySem.Spec PyProof.Rows L2 Fd Tx
/-- what is not off limits stays as it is, and stays so -/
def Fr (O : Addr → Bool) (H : Hp) (O' : Addr → Bool) (H' : Hp) : Prop := ∀ b o, O b = false → H b = some o → H' b = some o ∧ O' b = false
section
variable {G : Gr} {O O' O2 : Addr → Bool} {n m : Nat} {H H' H2 : Hp}
theorem Fr.refl : Fr O H O H := fun _ _ h1 h2 => ⟨h2, h1⟩
theorem Fr.trans (x : Fr O H O' H') (y : Fr O' H' O2 H2) : Fr O H O2 H2 := fun b o h1 h2 => by
  obtain ⟨h3, h4⟩ := x b o h1 h2
  exact y b o h4 h3
theorem Fr.hid (x : Fr O H O' H') : Same (hid O H) (hid O' H') := fun b o e => by
  obtain ⟨h1, h2⟩ := hid_some.mp e
  obtain ⟨h3, h4⟩ := x b o h1 h2
  exact hid_of h4 h3
theorem Gd.fr (g : Gd G O n H) (e : Ex G m H H') : Fr O H O H' := fun b o h1 h2 => ⟨e.keep b o (g.nf h1) h2, h1⟩
theorem Gd.frOff (g : Gd G O n H) (e : Ex G m H H') {p : Addr} (hp : H p = none) : Fr O H (offO O p) H' := fun b o h1 h2 => ⟨e.keep b o (g.nf h1) h2, by rw [offO_ne (ne_of_none h2 hp)]; exact h1⟩
theorem Fr.seq {K : PySem.W.Frag} (x : Fr O H O' H') {a : Addr} {vs : List V} (h : SqT K (Pu.hid O H) a vs) : SqT K H' a vs := SqT.same (x.hid.trans hid_le) h
end
/-! ### what is walked -/
structure IterS (G : Gr) (J : It) (ds : List D) (O : Addr → Bool) (H : Hp) : Prop where
  go : ∀ i O' H', i < ds.length → Fr O H O' H' → J.go i H'
  stop : ∀ O' H', Fr O H O' H' → J.stop ds.length H'
  yld : ∀ i O' n' H' x H'' d, ds[i]? = some d → Fr O H O' H' → Gd G O' n' H' → J.yld i H' x H'' → Ex G n' H' H'' ∧ Rep G (hid O' H'') d x
structure IterW (G : Gr) (J : It) (ds : List D) (O : Addr → Bool) (H : Hp) : Prop where
  go : ∀ i O' n' H', i < ds.length → Fr O H O' H' → Ex G n' H H' → J.go i H'
  stop : ∀ O' n' H', Fr O H O' H' → Ex G n' H H' → J.stop ds.length H'
  yld : ∀ i O' n' H' x H'' d, ds[i]? = some d → Fr O H O' H' → Ex G n' H H' → Gd G O' n' H' → J.yld i H' x H'' → Ex G n' H' H'' ∧ Rep G (hid O' H'') d x
theorem IterS.w {G : Gr} {J : It} {ds : List D} {O : Addr → Bool} {H : Hp} (h : IterS G J ds O H) : IterW G J ds O H :=
  ⟨fun i O' _ H' hi f _ => h.go i O' H' hi f, fun O' _ H' f _ => h.stop O' H' f, fun i O' n' H' x H'' d hd f _ g y => h.yld i O' n' H' x H'' d hd f g y⟩
abbrev IX := En → M (List D)
def tIs (S : Sa) (f : IX) : TI := fun σ H R => ∃ fd fl O ρ n R0, EG (S.gr fd fl) O ρ n σ H ∧ f ρ n R0 NoX ∧ ∀ ds n' J H', R0 ds n' → Ex (S.gr fd fl) n' H H' → ds.length ≤ sizeLine → IterS (S.gr fd fl) J ds O H' → R J H'
def tIw (S : Sa) (f : IX) : TI := fun σ H R => ∃ fd fl O ρ n R0, EG (S.gr fd fl) O ρ n σ H ∧ f ρ n R0 NoX ∧ ∀ ds n' J H', R0 ds n' → Ex (S.gr fd fl) n' H H' → ds.length ≤ sizeLine → IterW (S.gr fd fl) J ds O H' → R J H'
section
variable {X : Cx} {S : Sa} {tg e e2 : Expr} {fa fb : EX} {fi : IX} {pos p : Pos}
theorem pim {t t' : TI} {it : Expr} (h : PI X tg it t) (hm : ∀ σ H R, t' σ H R → t σ H R) : PI X tg it t' := ⟨fun pins s σ H R I q => h.run pins s σ H R I (hm σ H R q)⟩
theorem isw {it : Expr} (h : PI X tg it (tIs S fi)) : PI X tg it (tIw S fi) := pim h fun σ H R ⟨fd, fl, O, ρ, n, R0, eg, hf, hq⟩ => ⟨fd, fl, O, ρ, n, R0, eg, hf, fun ds n' J H' r ex sz it => hq ds n' J H' r ex sz it.w⟩
/-- a value that can be walked -/
def IvR (X : Cx) (tg : Expr) (iv : V → Hp → (It → Hp → Prop) → Prop) : Prop := ∀ (pins : List (Addr × Obj)) (s : Shared) (σ : L2.St) (H : Hp) (x : V) (v : Value) (R : It → Hp → Prop), Inv X pins σ H s → RelV x v → iv x H R → wpAny (model X.prog X.w) X.A (pyIter v) (PIE X pins σ tg R) X.xe s
theorem pi_iv {iv : V → Hp → (It → Hp → Prop) → Prop} {t : TE} (hi : IvR X tg iv) (he : PE X e t) : PI X tg e (fun σ H R => t σ H fun x H1 => iv x H1 R) :=
  ⟨fun pins s σ H R I h => thn (he.run pins s σ H _ I h) fun v s1 ⟨x, H1, I1, r1, q1⟩ => hi pins s1 σ H1 x v R I1 r1 q1⟩
theorem iv_list : IvR X tg (fun x H R => ∃ a xs, x = .ref a ∧ SqL X.K H a xs ∧ R (Itl X.K a) H) := by
  intro pins s1 σ H1 x v R I1 r1 q1
  obtain ⟨a, xs, rfl, hq, q⟩ := q1
  cases r1
  obtain ⟨its, rv, p, hz⟩ := I1.list hq
  refine wpAny_pyIter_list p.isList ?_
  refine ⟨s1.heap.objs.size, [s1.heap.objs.size], _, _, H1, rfl, I1.kept (t' := s1.toks) fun b o e => Heap.get?_push_of_some _ e, turn_list a _, ⟨_, Heap.get?_push_size _ rfl, rfl, rfl⟩, fun b hb => ?_, q⟩
  have e : b = s1.heap.objs.size := by simpa using hb
  subst e
  exact I1.fpOk (Nat.le_refl _) (I1.hok.fresh (Nat.le_refl _))
theorem iv_tup : IvR X tg (fun x H R => ∃ a xs, x = .ref a ∧ SqT X.K H a xs ∧ R (Itt X.K a) H) := by
  intro pins s1 σ H1 x v R I1 r1 q1
  obtain ⟨a, xs, rfl, hq, q⟩ := q1
  cases r1
  obtain ⟨its, rv, p, hz⟩ := I1.tuple hq
  refine wpAny_pyIter_tuple (show s1.heap.IsTuple a its.toArray from p) ?_
  refine ⟨s1.heap.objs.size, [s1.heap.objs.size], _, _, H1, rfl, I1.kept (t' := s1.toks) fun b o e => Heap.get?_push_of_some _ e, turn_tuple a _, ⟨_, Heap.get?_push_size _ rfl, rfl, rfl⟩, fun b hb => ?_, q⟩
  have e : b = s1.heap.objs.size := by simpa using hb
  subst e
  exact I1.fpOk (Nat.le_refl _) (I1.hok.fresh (Nat.le_refl _))
theorem iv_str : IvR X tg (fun v H R => ∃ x, v = .str x ∧ R (Its x) H) := by
  intro pins s1 σ H1 y v R I1 r1 q1
  obtain ⟨x, rfl, q⟩ := q1
  obtain ⟨t, rfl⟩ := r1
  cases ha : x.cps.all (· < 128)
  · exact wpAny_pyIter_wide ha (pi_one (tk := s1.toks) I1 _ (turn_str _ x t "str_iterator" (.inr rfl)) ⟨_, Heap.get?_push_size _ rfl, rfl, rfl⟩ q)
  · exact wpAny_pyIter_ascii ha (pi_one (tk := s1.toks) I1 _ (turn_str _ x t "str_ascii_iterator" (.inl rfl)) ⟨_, Heap.get?_push_size _ rfl, rfl, rfl⟩ q)
def iterD : D → Option (List D)
  | .lst xs => some xs
  | .tup xs => some xs
  | .str s => if s.length ≤ bigN then some (s.map fun c => .str [c]) else none
  | _ => none
def xIt (f : EX) : IX := fun ρ => bnd (f ρ) fun d => lft (iterD d)
variable {G : Gr} {O : Addr → Bool} {H : Hp}
theorem iter_lst {a : Addr} {xs : List D} {vs : List V} (h : hid O H a = some (.lst vs)) (r : Reps G (hid O H) xs vs) : IterS G (Itl G.K a) xs O H := by
  have hs : ∀ O' H', Fr O H O' H' → SqL G.K H' a vs := fun O' H' f => SqL.of (hid_le _ _ (f.hid _ _ h))
  refine ⟨fun i O' H' hi f => ?_, fun O' H' f => ⟨vs, hs O' H' f, by rw [r.length]; exact Nat.le_refl _⟩, fun i O' n' H' x H'' d hd f g y => ?_⟩
  · obtain ⟨v, hv, _⟩ := r.get (List.getElem?_eq_getElem hi)
    exact ⟨vs, v, hs O' H' f, hv⟩
  · obtain ⟨rfl, y2⟩ := y
    obtain ⟨v, hv, rv⟩ := r.get hd
    have := y2 vs (hs O' H'' f)
    rw [hv] at this; cases this
    exact ⟨g.rfl, rv.same f.hid⟩
theorem iter_own {a : Addr} {xs : List D} {vs : List V} (h : H a = some (.lst vs)) (ha : a ≠ G.fd) (r : Reps G (hid O H) xs vs) : IterW G (Itl G.K a) xs O H := by
  have hs : ∀ n' H', Ex G n' H H' → SqL G.K H' a vs := fun n' H' e => SqL.of (e.keep _ _ ha h)
  refine ⟨fun i O' n' H' hi f ex => ?_, fun O' n' H' f ex => ⟨vs, hs n' H' ex, by rw [r.length]; exact Nat.le_refl _⟩, fun i O' n' H' x H'' d hd f ex g y => ?_⟩
  · obtain ⟨v, hv, _⟩ := r.get (List.getElem?_eq_getElem hi)
    exact ⟨vs, v, hs n' H' ex, hv⟩
  · obtain ⟨rfl, y2⟩ := y
    obtain ⟨v, hv, rv⟩ := r.get hd
    have := y2 vs (hs n' H'' ex)
    rw [hv] at this; cases this
    exact ⟨g.rfl, rv.same f.hid⟩
theorem iter_tup {a : Addr} {xs : List D} {vs : List V} (h : SqT G.K (hid O H) a vs) (r : Reps G (hid O H) xs vs) : IterS G (Itt G.K a) xs O H := by
  have hs : ∀ O' H', Fr O H O' H' → SqT G.K H' a vs := fun O' H' f => f.seq h
  refine ⟨fun i O' H' hi f => ?_, fun O' H' f => ⟨vs, hs O' H' f, by rw [r.length]; exact Nat.le_refl _⟩, fun i O' n' H' x H'' d hd f g y => ?_⟩
  · obtain ⟨v, hv, _⟩ := r.get (List.getElem?_eq_getElem hi)
    exact ⟨vs, v, hs O' H' f, hv⟩
  · obtain ⟨rfl, y2⟩ := y
    obtain ⟨v, hv, rv⟩ := r.get hd
    have := y2 vs (hs O' H'' f)
    rw [hv] at this; cases this
    exact ⟨g.rfl, rv.same f.hid⟩
theorem iter_str {s : List Nat} : IterS G (Its (tx s)) (s.map fun c => .str [c]) O H := by
  have hl : (tx s).cps.size = s.length := tx_len s
  refine ⟨fun i O' H' hi f => ?_, fun O' H' f => ?_, fun i O' n' H' x H'' d hd f g y => ?_⟩
  · rw [List.length_map] at hi
    show i < (tx s).cps.size
    omega
  · rw [List.length_map]
    show (tx s).cps.size ≤ s.length
    omega
  · obtain ⟨rfl, c, hc, rfl⟩ := y
    rw [List.getElem?_map] at hd
    have hc' : s[i]? = some c := by
      have : (tx s).cps.toList[i]? = some c := by rw [Array.getElem?_toList]; exact hc
      rwa [tx_cps] at this
    rw [hc'] at hd
    cases hd
    exact ⟨g.rfl, rep_str.mpr rfl⟩
theorem iter_rng {lo : Int} {k : Nat} : IterS G (Itr lo k) ((List.range k).map fun i => .int (lo + (i : Nat))) O H := by
  refine ⟨fun i O' H' hi f => ?_, fun O' H' f => ?_, fun i O' n' H' x H'' d hd f g y => ?_⟩
  · rw [List.length_map, List.length_range] at hi
    exact hi
  · rw [List.length_map, List.length_range]
    exact Nat.le_refl _
  · obtain ⟨rfl, rfl⟩ := y
    rw [List.getElem?_map] at hd
    cases q : (List.range k)[i]? with
    | none => rw [q] at hd; cases hd
    | some j =>
      rw [q] at hd
      cases hd
      have : j = i := by
        have := (List.getElem?_eq_some_iff.mp q).2
        rw [List.getElem_range] at this
        exact this.symm
      subst this
      exact ⟨g.rfl, rep_int.mpr rfl⟩
theorem xit (hK : X.K = S.K) (he : PE X e (tS S fa)) : PI X tg e (tIs S (xIt fa)) := by
  refine pim (pi_iv (iv := fun x H R => (∃ a xs, x = .ref a ∧ SqL X.K H a xs ∧ R (Itl X.K a) H) ∨ (∃ a xs, x = .ref a ∧ SqT X.K H a xs ∧ R (Itt X.K a) H) ∨ ∃ z, x = .str z ∧ R (Its z) H) ?_ (pesz he)) fun σ H R ⟨fd, fl, O, ρ, n, R0, eg, hf, hq⟩ => fun hsz => ⟨fd, fl, O, ρ, n, _, eg, hf, fun d1 n1 v1 H1 r1 ex1 w1 => fun hsz1 => ?_⟩
  · intro pins s σ H x v R I rx h
    rcases h with h | h | h
    · exact iv_list pins s σ H x v R I rx h
    · exact iv_tup pins s σ H x v R I rx h
    · exact iv_str pins s σ H x v R I rx h
  · obtain ⟨ds, ed, hr⟩ := lft_iff r1
    cases d1 with
    | lst xs =>
      cases ed
      obtain ⟨a, vs, rfl, h1, h2⟩ := rep_lst.mp w1
      have hsq : SqL X.K H1 a vs := SqL.of (hid_le _ _ h1)
      refine .inl ⟨a, vs, rfl, hsq, hq _ n1 _ H1 hr ex1 (by rw [h2.length]; exact hsz1 a vs (.inl hsq)) ?_⟩
      rw [hK]
      exact iter_lst h1 h2
    | tup xs =>
      cases ed
      obtain ⟨a, vs, rfl, h1, h2⟩ := rep_tup.mp w1
      have hsq : SqT X.K H1 a vs := by rw [hK]; exact SqT.same hid_le h1.sq
      refine .inr (.inl ⟨a, vs, rfl, hsq, hq _ n1 _ H1 hr ex1 (by rw [h2.length]; exact hsz1 a vs (.inr hsq)) ?_⟩)
      rw [hK]
      exact iter_tup (G := S.gr fd fl) h1.sq h2
    | str t =>
      obtain ⟨hl, rfl⟩ := ite_some ed
      refine .inr (.inr ⟨tx t, rep_str.mp w1, hq _ n1 _ H1 hr ex1 (by rw [List.length_map]; exact big_le hl) iter_str⟩)
    | _ => cases ed
/-- a list of one's own, walked where nothing changes it -/
theorem xitw (hK : X.K = S.K) (he : PE X e (tW S fa)) : PI X tg e (tIw S (xIt fa)) := by
  refine pim (pi_iv (iv := fun x H R => (∃ a xs, x = .ref a ∧ SqL X.K H a xs ∧ R (Itl X.K a) H) ∨ (∃ a xs, x = .ref a ∧ SqT X.K H a xs ∧ R (Itt X.K a) H) ∨ ∃ z, x = .str z ∧ R (Its z) H) ?_ (pesz he)) fun σ H R ⟨fd, fl, O, ρ, n, R0, eg, hf, hq⟩ => fun hsz => ⟨fd, fl, O, ρ, n, _, eg, hf, fun d1 n1 v1 H1 r1 ex1 w1 => fun hsz1 => ?_⟩
  · intro pins s σ H x v R I rx h
    rcases h with h | h | h
    · exact iv_list pins s σ H x v R I rx h
    · exact iv_tup pins s σ H x v R I rx h
    · exact iv_str pins s σ H x v R I rx h
  · obtain ⟨ds, ed, hr⟩ := lft_iff r1
    rcases w1 with w1 | ⟨p, rfl, h1, h2, h3, h4⟩
    · cases d1 with
      | lst xs =>
        cases ed
        obtain ⟨a, vs, rfl, h1, h2⟩ := rep_lst.mp w1
        have hsq : SqL X.K H1 a vs := SqL.of (hid_le _ _ h1)
        refine .inl ⟨a, vs, rfl, hsq, hq _ n1 _ H1 hr ex1 (by rw [h2.length]; exact hsz1 a vs (.inl hsq)) ?_⟩
        rw [hK]
        exact (iter_lst h1 h2).w
      | tup xs =>
        cases ed
        obtain ⟨a, vs, rfl, h1, h2⟩ := rep_tup.mp w1
        have hsq : SqT X.K H1 a vs := by rw [hK]; exact SqT.same hid_le h1.sq
        refine .inr (.inl ⟨a, vs, rfl, hsq, hq _ n1 _ H1 hr ex1 (by rw [h2.length]; exact hsz1 a vs (.inr hsq)) ?_⟩)
        rw [hK]
        exact (iter_tup (G := S.gr fd fl) h1.sq h2).w
      | str t =>
        obtain ⟨hl, rfl⟩ := ite_some ed
        refine .inr (.inr ⟨tx t, rep_str.mp w1, hq _ n1 _ H1 hr ex1 (by rw [List.length_map]; exact big_le hl) iter_str.w⟩)
      | _ => cases ed
    · cases d1 with
      | lst xs =>
        cases ed
        obtain ⟨vs, h5, h6⟩ := h3
        have hsq : SqL X.K H1 p vs := SqL.of h5
        refine .inl ⟨p, vs, rfl, hsq, hq _ n1 _ H1 hr ex1 (by rw [h6.length]; exact hsz1 p vs (.inl hsq)) ?_⟩
        rw [hK]
        exact iter_own h5 h2 h6
      | tup _ => exact h3.elim
      | str _ => exact h3.elim
      | _ => cases ed
/-! ranges -/
def rngD (lo hi : Int) : Option (List D) := if -1000000000 ≤ lo ∧ hi ≤ 1000000000 ∧ -1000000000 ≤ hi ∧ lo ≤ 1000000000 ∧ (hi - lo).toNat ≤ bigN then some ((List.range (hi - lo).toNat).map fun i => .int (lo + (i : Nat))) else none
def xR1 (f : EX) : IX := fun ρ => bnd (f ρ) fun d => bnd (lft (intD d)) fun i => lft (rngD 0 i)
def xR2 (f g : EX) : IX := fun ρ => bnd (f ρ) fun d => bnd (g ρ) fun e => bnd (lft (intD d)) fun i => bnd (lft (intD e)) fun j => lft (rngD i j)
theorem intD_iff {d : D} {i : Int} (h : intD d = some i) : d = .int i := by cases d <;> first | (cases h; rfl) | cases h
theorem xr1 {a : Expr} (hg : Gl X "range") (hm : X.mg "range" = none) (ha : PE X a (tW S fa)) (hs : starEach [a] X.env = [(false, eval a X.env)] := by rfl) : PI X tg (.Call (.Name "range" p) [a] [] pos) (tIs S (xR1 fa)) :=
  pim (pi_range1 hg hm (pa_cons ha pa_nil (by rw [hs]; rfl)) hs) fun σ H R ⟨fd, fl, O, ρ, n, R0, eg, hf, hq⟩ => ⟨fd, fl, O, ρ, n, _, eg, hf, fun d1 n1 v1 H1 r1 ex1 w1 => by
    obtain ⟨i, ei, hi⟩ := lft_iff r1
    obtain ⟨ds, ed, hr⟩ := lft_iff hi
    obtain ⟨⟨b1, b2, b3, b4, b5⟩, rfl⟩ := ite_some ed
    have := intD_iff ei
    subst this
    refine ⟨i, by rw [w1.int], by omega, by omega, ?_⟩
    have e0 : i - 0 = i := by omega
    rw [e0] at hr b5
    exact hq _ n1 _ H1 hr ex1 (by rw [List.length_map, List.length_range]; exact big_le b5) iter_rng⟩
theorem xr2 {a b : Expr} (hg : Gl X "range") (hm : X.mg "range" = none) (ha : PE X a (tW S fa)) (hb : PE X b (tW S fb)) (hs : starEach [a, b] X.env = [(false, eval a X.env), (false, eval b X.env)] := by rfl) (hs2 : starEach [b] X.env = [(false, eval b X.env)] := by rfl) : PI X tg (.Call (.Name "range" p) [a, b] [] pos) (tIs S (xR2 fa fb)) :=
  pim (pi_range2 hg hm (pa_cons ha (pa_cons hb pa_nil (by rw [hs2]; rfl)) (by rw [hs, hs2])) hs hs2) fun σ H R ⟨fd, fl, O, ρ, n, R0, eg, hf, hq⟩ => ⟨fd, fl, O, ρ, n, _, eg, hf, fun d1 n1 v1 H1 r1 ex1 w1 => ⟨fd, fl, O, ρ, n1, _, eg.ex ex1, r1, fun d2 n2 v2 H2 r2 ex2 w2 => by
    obtain ⟨i, ei, hi⟩ := lft_iff r2
    obtain ⟨j, ej, hj⟩ := lft_iff hi
    obtain ⟨ds, ed, hr⟩ := lft_iff hj
    obtain ⟨⟨b1, b2, b3, b4, b5⟩, rfl⟩ := ite_some ed
    have e1 := intD_iff ei
    have e2 := intD_iff ej
    subst e1 e2
    refine ⟨i, j, by rw [w1.int, w2.int], by omega, ?_⟩
    exact hq _ n2 _ H2 hr (ex1.trans ex2) (by rw [List.length_map, List.length_range]; exact big_le b5) iter_rng⟩⟩
/-! enumerate, zip -/
def enumD (xs : List D) : List D := xs.zipIdx.map fun x => .tup [.int (x.2 : Nat), x.1]
def xEnum (f : EX) : IX := fun ρ => bnd (f ρ) fun d => match d with
  | .lst xs => ret (enumD xs)
  | _ => nay
theorem pasz' {es : List Expr} {t : TA} (h : PA X es t) : PA X es (fun σ H Q => SzOk X.K H → t σ H fun v H' => SzOk X.K H' → Q v H') := ⟨fun pos pins s σ H Q I q =>
  thn (h.run pos pins s σ H _ I (q (inv_szok I))) fun u s' ⟨v, H', I', r, q'⟩ => ⟨v, H', I', r, q' (inv_szok I')⟩⟩
theorem iter_enum {a : Addr} {xs : List D} {vs : List V} (h : hid O H a = some (.lst vs)) (r : Reps G (hid O H) xs vs) : IterS G (Ite G.K a) (enumD xs) O H := by
  have hs : ∀ O' H', Fr O H O' H' → SqL G.K H' a vs := fun O' H' f => SqL.of (hid_le _ _ (f.hid _ _ h))
  have hl : (enumD xs).length = xs.length := by unfold enumD; rw [List.length_map, List.length_zipIdx]
  refine ⟨fun i O' H' hi f => ?_, fun O' H' f => ⟨vs, hs O' H' f, by rw [hl, r.length]; exact Nat.le_refl _⟩, fun i O' n' H' x H'' d hd f g y => ?_⟩
  · rw [hl] at hi
    obtain ⟨v, hv, _⟩ := r.get (List.getElem?_eq_getElem hi)
    exact ⟨vs, v, hs O' H' f, hv⟩
  · obtain ⟨T, z, rfl, hT, rfl, y2⟩ := y
    have hz := y2 vs (hs O' H' f)
    obtain ⟨x', hx', rx'⟩ := r.get' hz
    unfold enumD at hd
    rw [List.getElem?_map, List.getElem?_zipIdx, hx'] at hd
    cases hd
    refine ⟨g.new hT, ?_⟩
    rw [Nat.zero_add]
    exact new_tup g hT (.cons (rep_int.mpr rfl) (.cons (rx'.same f.hid) .nil))
theorem xenum {elts : List Expr} {kk : Nat} {tpos : Pos} (hK : X.K = S.K) (hg : Gl X "enumerate") (hm : X.mg "enumerate" = none) (ha : PE X e (tS S fa)) (hs : starEach [e] X.env = [(false, eval e X.env)] := by rfl) :
    PI X (.Tuple elts kk tpos) (.Call (.Name "enumerate" p) [e] [] pos) (tIs S (xEnum fa)) :=
  pim (pi_enum hg hm (pasz' (pa_cons ha pa_nil (by rw [hs]; rfl))) hs) fun σ H R ⟨fd, fl, O, ρ, n, R0, eg, hf, hq⟩ => fun _ => ⟨fd, fl, O, ρ, n, _, eg, hf, fun d1 n1 v1 H1 r1 ex1 w1 => fun hsz => by
    cases d1 with
    | lst xs =>
      obtain ⟨a, vs, rfl, h1, h2⟩ := rep_lst.mp w1
      have hsq : SqL X.K H1 a vs := SqL.of (hid_le _ _ h1)
      refine ⟨a, vs, rfl, hsq, hq _ n1 _ H1 r1 ex1 ?_ ?_⟩
      · unfold enumD
        rw [List.length_map, List.length_zipIdx, h2.length]
        exact hsz a vs (.inl hsq)
      · rw [hK]
        exact iter_enum h1 h2
    | _ => exact r1.elim⟩
end
end Pu
set_option Elab.async false
set_option linter.all false
set_option maxRecDepth 100000
set_option maxHeartbeats 4000000
namespace Pu
open PySem PySem.Spec PyProof.Rows L2 Fd Tx
/-! ### slots set, wiped -/
section
variable {G : Gr} {O : Addr → Bool} {ρ : En} {n m : Nat} {σ : L2.St} {H H' : Hp}
theorem EG.set (g : EG G O ρ n σ H) (i : Nat) {d : D} {v : V} (r : Rep G (hid O H) d v) : EG G O (ρ.set i (.fz d)) n (σ.set i (some v)) H := by
  refine ⟨g.gd, by rw [List.length_set, List.length_set]; exact g.len, fun j e h => ?_, fun j e h => ?_⟩
  · by_cases hj : i = j
    · subst hj
      rw [List.getElem?_set_self'] at h
      cases q : ρ[i]? with
      | none => rw [q] at h; cases h
      | some z =>
        rw [q] at h
        cases h
        have hlt : i < σ.length := by rw [← g.len]; exact (List.getElem?_eq_some_iff.mp q).1
        exact ⟨v, List.getElem?_set_self hlt, r⟩
    · rw [List.getElem?_set_ne hj] at h
      rw [List.getElem?_set_ne hj]
      exact g.fz j e h
  · by_cases hj : i = j
    · subst hj
      rw [List.getElem?_set_self'] at h
      cases q : ρ[i]? with
      | none => rw [q] at h; cases h
      | some z => rw [q] at h; cases h
    · rw [List.getElem?_set_ne hj] at h
      rw [List.getElem?_set_ne hj]
      exact g.ow j e h
theorem EG.unset (g : EG G O ρ n σ H) (i : Nat) (w : Option V) : EG G O (ρ.set i .no) n (σ.set i w) H := by
  refine ⟨g.gd, by rw [List.length_set, List.length_set]; exact g.len, fun j e h => ?_, fun j e h => ?_⟩
  · by_cases hj : i = j
    · subst hj
      rw [List.getElem?_set_self'] at h
      cases q : ρ[i]? with
      | none => rw [q] at h; cases h
      | some z => rw [q] at h; cases h
    · rw [List.getElem?_set_ne hj] at h
      rw [List.getElem?_set_ne hj]
      exact g.fz j e h
  · by_cases hj : i = j
    · subst hj
      rw [List.getElem?_set_self'] at h
      cases q : ρ[i]? with
      | none => rw [q] at h; cases h
      | some z => rw [q] at h; cases h
    · rw [List.getElem?_set_ne hj] at h
      rw [List.getElem?_set_ne hj]
      exact g.ow j e h
def wipeS (ρ : En) : List Nat → En
  | [] => ρ
  | v :: vs => (wipeS ρ vs).set v .no
theorem EG.wipe (g : EG G O ρ n σ H) : ∀ vs : List Nat, EG G O (wipeS ρ vs) n (L2.wipe σ vs) H
  | [] => g
  | v :: vs => (EG.wipe g vs).unset v none
theorem wipe_get (σ : L2.St) : ∀ (vs : List Nat) (i : Nat), (L2.wipe σ vs)[i]? = if i ∈ vs then (if i < σ.length then some none else none) else σ[i]?
  | [], i => by simp [L2.wipe]
  | v :: vs, i => by
    unfold L2.wipe
    by_cases hi : v = i
    · subst hi
      rw [List.getElem?_set_self', wipe_get σ vs v]
      by_cases hl : v < σ.length
      · by_cases hm : v ∈ vs
        · simp [hm, hl]
        · simp [hm, hl]
      · by_cases hm : v ∈ vs
        · simp [hm, hl]
        · simp [hm, hl]
    · rw [List.getElem?_set_ne hi, wipe_get σ vs i]
      have : (i ∈ v :: vs) = (i ∈ vs) := by
        rw [List.mem_cons]
        simp [Ne.symm hi]
      simp only [this]
theorem wipe_same {σ2 : L2.St} {vs : List Nat} (hl : σ2.length = σ.length) (h : ∀ i, i ∉ vs → σ2[i]? = (L2.wipe σ vs)[i]?) : L2.wipe σ2 vs = L2.wipe σ vs := by
  refine List.ext_getElem? fun i => ?_
  rw [wipe_get σ2, wipe_get σ]
  by_cases hi : i ∈ vs
  · rw [if_pos hi, if_pos hi, hl]
  · rw [if_neg hi, if_neg hi, h i hi, wipe_get σ, if_neg hi]
/-- one more address off limits, the heap grown -/
theorem Gd.offG {D : Addr} (g : Gd G O n H) (e : Ex G m H H') (hD' : H' D ≠ none) : Gd G (offO O D) m H' := by
  have g' := g.ex e
  refine ⟨g'.feed, offO_le g.ofd, fun a ha => ?_⟩
  by_cases h : a = D
  · rw [h]; exact hD'
  · rw [offO_ne h] at ha; exact g'.alc a ha
theorem RepO.fr {O' : Addr → Bool} {p : Addr} (f : Fr O H O' H') (hk : ∀ o, H p = some o → H' p = some o) : ∀ {d : D}, RepO G O H p d → RepO G O' H' p d
  | .lst xs, ⟨vs, h1, h2⟩ => ⟨vs, hk _ h1, h2.same f.hid⟩
  | .dic ks xs, ⟨vs, h1, h2, h3⟩ => ⟨vs, hk _ h1, h2, h3.same f.hid⟩
  | .dct ks xs, ⟨vs, h1, h2, h3⟩ => ⟨vs, hk _ h1, h2, h3.same f.hid⟩
  | .obj c xs, ⟨dx, vs, h1, h2, h3⟩ => ⟨dx, vs, hk _ h1, h2, h3.same f.hid⟩
  | .non, h => h
  | .bl _, h => h
  | .int _, h => h
  | .str _, h => h
  | .tup _, h => h
  | .feed, h => h
theorem EG.off {D : Addr} (g : EG G O ρ n σ H) (e : Ex G m H H') (hD : H D = none) (hD' : H' D ≠ none) : EG G (offO O D) ρ m σ H' := by
  have f := g.gd.frOff e hD
  refine ⟨g.gd.offG e hD', g.len, fun i d h => ?_, fun i d h => ?_⟩
  · obtain ⟨v, h1, h2⟩ := g.fz i d h
    exact ⟨v, h1, h2.same f.hid⟩
  · obtain ⟨p, h1, h2, h3, h4⟩ := g.ow i d h
    exact ⟨p, h1, offO_le h2, h3, h4.fr f fun o => e.keep p o h3⟩
end
/-! ### targets -/
abbrev GX := D → En → Option En
def Tgt (vs : List Nat) (ρ : En) (σ : L2.St) (ρ' : En) (σ' : L2.St) : Prop :=
  σ'.length = σ.length ∧ (∀ i : Nat, i ∉ vs → σ'[i]? = σ[i]?) ∧ (∀ (i : Nat) (d : D), ρ'[i]? = some (Sl.ow d) → ρ[i]? = some (Sl.ow d) ∧ σ'[i]? = σ[i]?) ∧
    ∀ (i c : Nat) (xs : List D), ρ[i]? = some (Sl.ow (.obj c xs)) → ρ'[i]? = some (Sl.ow (.obj c xs)) ∧ σ'[i]? = σ[i]?
theorem Tgt.refl {ρ : En} {σ : L2.St} : Tgt [] ρ σ ρ σ := ⟨rfl, fun _ _ => rfl, fun _ _ h => ⟨h, rfl⟩, fun _ _ _ h => ⟨h, rfl⟩⟩
theorem Tgt.trans {vs ws : List Nat} {ρ ρ1 ρ2 : En} {σ σ1 σ2 : L2.St} (a : Tgt vs ρ σ ρ1 σ1) (b : Tgt ws ρ1 σ1 ρ2 σ2) : Tgt (vs ++ ws) ρ σ ρ2 σ2 := by
  refine ⟨b.1.trans a.1, fun i hi => ?_, fun i d h => ?_, fun i c xs h => ?_⟩
  · rw [List.mem_append] at hi
    exact (b.2.1 i fun z => hi (.inr z)).trans (a.2.1 i fun z => hi (.inl z))
  · obtain ⟨h1, h2⟩ := b.2.2.1 i d h
    obtain ⟨h3, h4⟩ := a.2.2.1 i d h1
    exact ⟨h3, h2.trans h4⟩
  · obtain ⟨h1, h2⟩ := a.2.2.2 i c xs h
    obtain ⟨h3, h4⟩ := b.2.2.2 i c xs h1
    exact ⟨h3, h4.trans h2⟩
def tG (S : Sa) (g : GX) (vs : List Nat) : TG := fun v σ H Q => ∃ fd fl O ρ n d ρ', EG (S.gr fd fl) O ρ n σ H ∧ Rep (S.gr fd fl) (hid O H) d v ∧ g d ρ = some ρ' ∧ ∀ σ', EG (S.gr fd fl) O ρ' n σ' H → Tgt vs ρ σ ρ' σ' → Q σ' H
def tGs (S : Sa) (g : List D → En → Option En) (vs : List Nat) : TGs := fun xs σ H Q => ∃ fd fl O ρ n ds ρ', EG (S.gr fd fl) O ρ n σ H ∧ Reps (S.gr fd fl) (hid O H) ds xs ∧ g ds ρ = some ρ' ∧ ∀ σ', EG (S.gr fd fl) O ρ' n σ' H → Tgt vs ρ σ ρ' σ' → Q σ' H
/-- an object of one's own is never overwritten -/
def noOb : Option Sl → Bool
  | some (.ow (.obj _ _)) => false
  | _ => true
def gN (i : Nat) : GX := fun d ρ => if noOb ρ[i]? = true then some (ρ.set i (.fz d)) else none
def gNil : List D → En → Option En
  | [], ρ => some ρ
  | _, _ => none
def gCons (g : GX) (gs : List D → En → Option En) : List D → En → Option En
  | x :: xs, ρ => (g x ρ).bind fun ρ1 => gs xs ρ1
  | _, _ => none
def gTup (k : Nat) (gs : List D → En → Option En) : GX := fun d ρ => match d with
  | .tup xs => if xs.length = k then gs xs ρ else none
  | _ => none
section
variable {X : Cx} {S : Sa} {pos : Pos}
theorem pgm {e : Expr} {t t' : TG} (h : PG X e t) (hm : ∀ v σ H Q, t' v σ H Q → t v σ H Q) : PG X e t' := ⟨fun pins s σ H v u Q I r q => h.run pins s σ H v u Q I r (hm v σ H Q q)⟩
theorem pgsm {es : List Expr} {t t' : TGs} (h : PGs X es t) (hm : ∀ v σ H Q, t' v σ H Q → t v σ H Q) : PGs X es t' := ⟨fun pins s σ H v u Q I r q => h.run pins s σ H v u Q I r (hm v σ H Q q)⟩
theorem tgt_set {ρ : En} {σ : L2.St} {i : Nat} {d : D} {v : V} (ho : noOb ρ[i]? = true) : Tgt [i] ρ σ (ρ.set i (.fz d)) (σ.set i (some v)) := by
  refine ⟨List.length_set .., fun j hj => ?_, fun j e h => ?_, fun j c xs h => ?_⟩
  · rw [List.getElem?_set_ne (fun z => hj (by simp [z]))]
  · by_cases hj : i = j
    · subst hj
      rw [List.getElem?_set_self'] at h
      cases q : ρ[i]? with
      | none => rw [q] at h; cases h
      | some z => rw [q] at h; cases h
    · rw [List.getElem?_set_ne hj] at h
      rw [List.getElem?_set_ne hj]
      exact ⟨h, rfl⟩
  · by_cases hj : i = j
    · subst hj
      rw [h] at ho; cases ho
    · rw [List.getElem?_set_ne hj, List.getElem?_set_ne hj]
      exact ⟨h, rfl⟩
theorem xgn {i : Nat} {x : Str} (h : PG X (.Name x pos) (gName i)) : PG X (.Name x pos) (tG S (gN i) [i]) :=
  pgm h fun v σ H Q ⟨fd, fl, O, ρ, n, d, ρ', eg, rp, e, q⟩ => by
    obtain ⟨ho, rfl⟩ := ite_some e
    exact q _ (eg.set i rp) (tgt_set ho)
theorem xgnil : PGs X [] (tGs S gNil []) := pgsm pgs_nil fun xs σ H Q ⟨fd, fl, O, ρ, n, ds, ρ', eg, rp, e, q⟩ => by
  cases ds with
  | nil => cases e; exact ⟨reps_nil.mp rp, q σ eg .refl⟩
  | cons _ _ => cases e
theorem xgcons {e : Expr} {es : List Expr} {g : GX} {gs : List D → En → Option En} {vs ws : List Nat} (h1 : PG X e (tG S g vs)) (h2 : PGs X es (tGs S gs ws))
    (hs : (assignEach (e :: es) X.env).map (·.2) = assign e X.env :: (assignEach es X.env).map (·.2) := by rfl) : PGs X (e :: es) (tGs S (gCons g gs) (vs ++ ws)) :=
  pgsm (pgs_cons h1 h2 hs) fun xs σ H Q ⟨fd, fl, O, ρ, n, ds, ρ', eg, rp, e, q⟩ => by
    cases ds with
    | nil => cases e
    | cons d ds =>
      obtain ⟨v, r, rfl, r1, r2⟩ := reps_cons.mp rp
      cases hg : g d ρ with
      | none => rw [gCons, hg] at e; cases e
      | some ρ1 =>
        rw [gCons, hg] at e
        exact ⟨v, r, rfl, fd, fl, O, ρ, n, d, ρ1, eg, r1, hg, fun σ1 eg1 t1 => ⟨fd, fl, O, ρ1, n, ds, ρ', eg1, r2, e, fun σ2 eg2 t2 => q σ2 eg2 (t1.trans t2)⟩⟩
theorem pg_tK {K : PySem.W.Frag} {n : Nat} {es : List Expr} {kk : Nat} {t : TGs} (hK : X.K = K) (hc : X.calm = true) (h : PGs X es t)
    (hn : (assignEach es X.env).length = n := by rfl) (hst : (assignEach es X.env).findIdx? (·.1) = none := by rfl) : PG X (.Tuple es kk pos) (L2.gTup K n t) := by
  subst hK
  exact pg_tup hc h hn hst
theorem xgtup {k : Nat} {es : List Expr} {kk : Nat} {gs : List D → En → Option En} {vs : List Nat} (hK : X.K = S.K) (hc : X.calm = true) (h : PGs X es (tGs S gs vs))
    (hn : (assignEach es X.env).length = k := by rfl) (hst : (assignEach es X.env).findIdx? (·.1) = none := by rfl) : PG X (.Tuple es kk pos) (tG S (gTup k gs) vs) :=
  pgm (pg_tK hK hc h hn hst) fun v σ H Q ⟨fd, fl, O, ρ, n, d, ρ', eg, rp, e, q⟩ => by
    cases d with
    | tup xs =>
      obtain ⟨a, vs', rfl, h1, h2⟩ := rep_tup.mp rp
      have e' : (if xs.length = k then gs xs ρ else none) = some ρ' := e
      by_cases hl : xs.length = k
      · rw [if_pos hl] at e'
        exact ⟨a, vs', rfl, SqT.same hid_le h1.sq, by rw [← h2.length]; exact hl, fd, fl, O, ρ, n, xs, ρ', eg, h2, e', q⟩
      · rw [if_neg hl] at e'; cases e'
    | _ => cases e
end
/-! ### list comprehensions -/
def stepW (g : GX) (cond : En → M Bool) (elt : EX) (ρ : En) (d : D) : M (Option D) := bnd (lft (g d ρ)) fun ρ1 => bnd (cond ρ1) fun b => if b = true then bnd (elt ρ1) fun y => ret (some y) else ret none
def lcW (step : D → M (Option D)) : List D → M (List D)
  | [] => ret []
  | d :: ds => bnd (step d) fun o => bnd (lcW step ds) fun ys => ret (o.toList ++ ys)
def xLc (vs : List Nat) (it : IX) (g : GX) (cond : En → M Bool) (elt : EX) : EX := fun ρ => bnd (it ρ) fun ds => bnd (lcW (stepW g cond elt (wipeS ρ vs)) ds) fun ys => ret (.lst ys)
def xYes : En → M Bool := fun _ => ret true
section
variable {X : Cx} {S : Sa} {pos : Pos}
theorem ptsm {es : List Expr} {t t' : TT} (h : PTs X es t) (hm : ∀ σ H Q, t' σ H Q → t σ H Q) : PTs X es t' := ⟨fun pins s σ H Q I q => h.run pins s σ H Q I (hm σ H Q q)⟩
theorem xts0 : PTs X [] (tB S xYes) := ptsm pts_nil fun σ H Q ⟨fd, fl, O, ρ, n, R, eg, hf, hq⟩ => hq true n H hf eg.gd.rfl
theorem xts1 {e : Expr} {p : En → M Bool} (h : PT X e (tB S p)) : PTs X [e] (tB S p) := pts_one h
theorem FeedN.upd {G : Gr} {n : Nat} {H0 H : Hp} {D : Addr} {o : HO} {m : Nat} (h0 : FeedN G m H0) (hD : H0 D = none) (h : FeedN G n H) : FeedN G n (upd H D o) := by
  obtain ⟨cs0, F0⟩ := h0
  obtain ⟨cs, F⟩ := h
  obtain ⟨h1, h2⟩ := F0.new hD
  obtain ⟨⟨a, f, ha, e⟩, q, z⟩ := F
  exact ⟨cs, ⟨a, f, ha, by rw [upd_ne h1]; exact e⟩, by rw [upd_ne h2]; exact q, z⟩
theorem lc_run {wi : TI} {G : Gr} {O : Addr → Bool} {ρ : En} {n : Nat} {σ : L2.St} {H0 H1 : Hp} {J : It} {ds : List D} {fi : IX} {g : GX} {cond : En → M Bool} {elt : EX} {ws vs : List Nat} {R : D → Nat → Prop} {Q : Hp → Prop} {D : Addr} {n1 : Nat} {fd fl : Addr}
    (hG : G = S.gr fd fl) (hw : ∀ i ∈ ws, i ∈ vs) (eg : EG G O ρ n σ H0) (ex1 : Ex G n1 H0 H1) (sz : ds.length ≤ sizeLine) (it : IterW G J ds O H1) (hD : H1 D = none) (r1 : bnd (lcW (stepW g cond elt (wipeS ρ vs)) ds) (fun ys => ret (.lst ys)) n1 R NoX)
    (hq : ∀ d n' H', R d n' → Ex G n' H0 H' → RepO G (offO O D) H' D d → (∀ c xs, d ≠ .obj c xs) → Q H') :
    ∃ W : Nat → Nat → Hp → Prop, (∃ m, W 0 m (upd H1 D (.lst []))) ∧ ∀ i m H, W i m H →
      (J.stop i H ∧ Q H) ∨ (J.go i H ∧ ∃ Nx : Hp → Prop, (∀ H', Nx H' → ∃ m', m' < m ∧ W (i + 1) m' H') ∧ ∀ x H', J.yld i H x H' → tG S g ws x (L2.wipe σ vs) H' fun σ2 H2 => L2.wipe σ2 vs = L2.wipe σ vs ∧ tB S cond σ2 H2 fun b H3 =>
        if b = true then tS S elt σ2 H3 fun y H4 => ∃ acc, H4 D = some (.lst acc) ∧ acc.length < sizeLine ∧ Nx (upd H4 D (.lst (acc ++ [y]))) else Nx H3) := by
  subst hG
  have eg1 := eg.ex ex1
  let Pv : Nat → Hp → Prop := fun i H => ∃ n' acc vs', Ex (S.gr fd fl) n' H1 H ∧ H D = some (.lst vs') ∧ Reps (S.gr fd fl) (hid (offO O D) H) acc vs' ∧ vs'.length ≤ i ∧ lcW (stepW g cond elt (wipeS ρ vs)) (ds.drop i) n' (fun ys n'' => R (.lst (acc ++ ys)) n'') NoX
  refine ⟨fun i m H => m = ds.length - i ∧ i ≤ ds.length ∧ Pv i H, ⟨ds.length, by simp, Nat.zero_le _, n1, [], [], eg1.gd.new hD, upd_same, .nil, Nat.le_refl _, r1⟩, ?_⟩
  rintro i m H ⟨rfl, hi, n', acc, vs', ex, hDH, rp, hl, hw'⟩
  have fr := eg1.gd.frOff ex hD
  have hDn : H D ≠ none := by rw [hDH]; exact fun z => nomatch z
  have gdO := eg1.gd.offG ex hDn
  by_cases hlt : i < ds.length
  · refine .inr ⟨it.go i _ n' H hlt fr ex, Pv (i + 1), fun H' p' => ⟨ds.length - (i + 1), by omega, rfl, hlt, p'⟩, fun x H' y => ?_⟩
    have hd : ds[i]? = some ds[i] := List.getElem?_eq_getElem hlt
    obtain ⟨ex2, rx⟩ := it.yld i _ n' H x H' _ hd fr ex gdO y
    rw [List.drop_eq_getElem_cons hlt] at hw'
    have exx := ex.trans ex2
    have hDH' : H' D = some (.lst vs') := ex2.keep D _ (eg1.gd.ne hD) hDH
    have egO := (eg1.off exx hD (by rw [hDH']; exact fun z => nomatch z)).wipe vs
    obtain ⟨ρ1, eρ, hc⟩ := lft_iff hw'
    refine ⟨fd, fl, offO O D, wipeS ρ vs, n', ds[i], ρ1, egO, rx, eρ, fun σ2 eg2 tg => ⟨?_, ?_⟩⟩
    · exact wipe_same (by rw [tg.1, wipe_length]) fun j hj => tg.2.1 j fun z => hj (hw j z)
    · refine ⟨fd, fl, offO O D, ρ1, n', _, eg2, hc, fun b n3 H3 r3 ex3 => ?_⟩
      have gdO' : Gd (S.gr fd fl) (offO O D) n' H' := eg2.gd
      cases b with
      | false =>
        refine ⟨n3, acc, vs', exx.trans ex3, ex3.keep D _ (eg1.gd.ne hD) hDH', (rp.same (gdO.hid ex2)).same (gdO'.hid ex3), Nat.le_succ_of_le hl, r3⟩
      | true =>
        refine ⟨fd, fl, offO O D, ρ1, n3, _, eg2.ex ex3, r3, fun y' n4 v4 H4 r4 ex4 rp4 => ?_⟩
        have hD4 : H4 D = some (.lst vs') := ex4.keep D _ (eg1.gd.ne hD) (ex3.keep D _ (eg1.gd.ne hD) hDH')
        have ex14 := (exx.trans ex3).trans ex4
        refine ⟨vs', hD4, by omega, n4, acc ++ [y'], vs' ++ [v4], ⟨fun b o hb e => ?_, ?_⟩, upd_same, ?_, ?_, ?_⟩
        · rw [upd_ne (ne_of_none e hD)]
          exact ex14.keep b o hb e
        · exact FeedN.upd eg1.gd.feed hD ex14.feed
        · rw [hid_upd offO_self]
          have g3 : Gd (S.gr fd fl) (offO O D) n3 H3 := gdO'.ex ex3
          exact (((rp.same (gdO.hid ex2)).same (gdO'.hid ex3)).same (g3.hid ex4)).snoc rp4
        · rw [List.length_append, List.length_singleton]
          omega
        · have r4' : lcW (stepW g cond elt (wipeS ρ vs)) (ds.drop (i + 1)) n4 (fun ys n'' => R (.lst (acc ++ ((some y').toList ++ ys))) n'') NoX := r4
          have e : (fun (ys : List Pu.D) (n'' : Nat) => R (.lst (acc ++ [y'] ++ ys)) n'') = fun ys n'' => R (.lst (acc ++ ((some y').toList ++ ys))) n'' := by
            funext ys n''
            rw [List.append_assoc]
            rfl
          rw [e]
          exact r4'
  · have e : i = ds.length := by omega
    subst e
    rw [List.drop_length] at hw'
    have hw2 : R (.lst (acc ++ [])) n' := hw'
    rw [List.append_nil] at hw2
    exact .inl ⟨it.stop _ n' H fr ex, hq (.lst acc) n' H hw2 (ex1.trans ex) ⟨vs', hDH, rp⟩ (fun _ _ z => nomatch z)⟩
theorem xlc {elt tg iter : Expr} {ifs : List Expr} {scope : Scope} {own : List (PySem.Str × Nat)} {fi : IX} {g : GX} {p : En → M Bool} {fe : EX} {ws : List Nat} (hc : X.calm = true) (hN : X.N.Nodup) (hi : PI X tg iter (tIw S fi)) (ok : BlkOk X.N X.env.scope scope own)
    (hg : ∀ (s : Shared) (H : Hp) (C : Addr) (cl : List (PySem.Str × Addr)) (fp : List Addr), PG (X.blk s H scope (compEnvC scope cl C X.env) fp) tg (tG S g ws)) (ht : ∀ (s : Shared) (H : Hp) (C : Addr) (cl : List (PySem.Str × Addr)) (fp : List Addr), PTs (X.blk s H scope (compEnvC scope cl C X.env) fp) ifs (tB S p))
    (he : ∀ (s : Shared) (H : Hp) (C : Addr) (cl : List (PySem.Str × Addr)) (fp : List Addr), PE (X.blk s H scope (compEnvC scope cl C X.env) fp) elt (tS S fe)) (hw : ∀ i ∈ ws, i ∈ own.map (·.2) := by decide) (hs : ∀ x, foldedSetIterable iter X.env x = pure x := by intro _; rfl) :
    PE X (.ListComp elt [⟨tg, iter, ifs, 0⟩] scope pos) (tF S (xLc (own.map (·.2)) fi g p fe)) :=
  pem (pe_lc hc hN hi ok hg ht he hs) fun σ H Q ⟨fd, fl, O, ρ, n, R, eg, hf, hq⟩ => ⟨fd, fl, O, ρ, n, _, eg, hf, fun ds n1 J H1 r1 ex1 sz it D hD =>
    lc_run (wi := tIw S fi) (fi := fi) rfl hw eg ex1 sz it hD r1 fun d n' H' hr ex ro ho => hq d n' D H' hr ex (eg.gd.old ex1 hD) ((eg.gd.ex ex1).ne hD) ro ho⟩
end
end Pu
set_option Elab.async false
set_option linter.all false
set_option maxRecDepth 100000
set_option maxHeartbeats 4000000
namespace Pu
open PySem PySem.Spec PyProof.Rows L2 Fd Tx
/-! ### defs of the text -/
abbrev FX := List D → M D
/-- the promise of a def that is F; k parameters -/
def spF (S : Sa) (k : Nat) (F : FX) : Sp := fun vs H Q _ => ∃ fd fl O n ds R, Gd (S.gr fd fl) O n H ∧ Reps (S.gr fd fl) (hid O H) ds vs ∧ ds.length = k ∧ F ds n R NoX ∧ ∀ d n' v H', R d n' → Ex (S.gr fd fl) n' H H' → Rep (S.gr fd fl) (hid O H') d v → Q v H'
/-- the promise of an __init__: the new object of class c is what F tells -/
def spI (S : Sa) (c k : Nat) (F : FX) : Sp := fun vs H Q _ => ∃ fd fl O n ds R H1 x dx ws, Gd (S.gr fd fl) O n H1 ∧ H = upd (upd H1 dx (.own x)) x (.ins (S.cls c) dx []) ∧ H1 x = none ∧ H1 dx = none ∧ dx ≠ x ∧ vs = .ref x :: ws ∧
  Reps (S.gr fd fl) (hid O H1) ds ws ∧ ds.length = k ∧ F ds n R NoX ∧ ∀ d n' H', R d n' → Ex (S.gr fd fl) n' H1 H' → Rep (S.gr fd fl) (hid O H') d (.ref x) → Q .non H'
def xCall (F : FX) (as : En → M (List D)) : EX := fun ρ => bnd (as ρ) F
/-- .. with keywords behind -/
def xCallK (F : FX) (as ks : En → M (List D)) : EX := fun ρ => bnd (as ρ) fun xs => bnd (ks ρ) fun ys => F (xs ++ ys)
def xCallD (F : FX) (as : En → M (List D)) (dd : List D) : EX := fun ρ => bnd (as ρ) fun xs => F (xs ++ dd)
theorem spF_len {S : Sa} {k : Nat} {F : FX} {vs : List V} {H : Hp} {Q : VK} {E : XK} (h : spF S k F vs H Q E) : vs.length = k := by
  obtain ⟨fd, fl, O, n, ds, R, gd, rp, hl, _⟩ := h
  rw [← rp.length, hl]
theorem spI_len {S : Sa} {c k : Nat} {F : FX} {vs : List V} {H : Hp} {Q : VK} {E : XK} (h : spI S c k F vs H Q E) : vs.length = k + 1 := by
  obtain ⟨fd, fl, O, n, ds, R, H1, x, dx, ws, gd, _, _, _, _, rfl, rp, hl, _⟩ := h
  rw [List.length_cons, ← rp.length, hl]
section
variable {X : Cx} {S : Sa} {CX : CXT} {j k m : Nat} {f C : Addr} {fd : FuncData} {ps : List Str} {F : FX} {x mn : Str} {p pos apos : Pos} {e o : Expr} {es : List Expr} {fa : En → M (List D)} {fo : EX}
theorem xcall (G : FnOk X.prog X.w X.K X.mg X.base CX0 j f fd ps (spF S m F)) (hr : Room j X.A) (hg : Gl X x) (hm : X.mg x = some (.ref f)) (hk : PySem.W.keepIn X.K (.ref f) = true) (hb : Binds X.K fd ps [])
    (ha : PA X (e :: es) (tAs S m fa)) (hdb : (x == ("__debug__" : Str)) = false := by decide) (he : starEach (e :: es) X.env = (false, eval e X.env) :: starEach es X.env := by rfl) (hpl : (backTo pos (starEach es X.env)).any (·.1) = false := by rfl) :
    PE X (.Call (.Name x p) (e :: es) [] pos) (tS S (xCall F fa)) :=
  pem (pe_call G hr hg hm hk hb .nil pass0 ha hdb he hpl) fun σ H Q ⟨fd, fl, O, ρ, n, R, eg, hf, hq⟩ => ⟨fd, fl, O, ρ, n, _, eg, hf, fun ds n1 vs H1 r1 hl ex1 rp => by
    show spF S m F (vs ++ []) H1 Q E0
    rw [List.append_nil]
    exact ⟨fd, fl, O, n1, ds, R, eg.gd.ex ex1, rp, hl, r1, fun d n' v H' hr ex r => hq d n' v H' hr (ex1.trans ex) r⟩⟩
theorem xcall0 (G : FnOk X.prog X.w X.K X.mg X.base CX0 j f fd ps (spF S 0 F)) (hr : Room j X.A) (hg : Gl X x) (hm : X.mg x = some (.ref f)) (hk : PySem.W.keepIn X.K (.ref f) = true) (hb : Binds X.K fd ps [])
    (hdb : (x == ("__debug__" : Str)) = false := by decide) : PE X (.Call (.Name x p) [] [] pos) (tS S (xCall F xNil)) :=
  pem (pe_call0 G hr hg hm hk hb .nil pass0 hdb) fun σ H Q ⟨fd, fl, O, ρ, n, R, eg, hf, hq⟩ => ⟨fd, fl, O, n, [], R, eg.gd, .nil, rfl, hf, fun d n' v H' hr ex r => hq d n' v H' hr ex r⟩
/-- defaults that fill up: dd stands for dvs -/
theorem xcalld {dvs : List V} {dv : List Value} {dd : List D} (G : FnOk X.prog X.w X.K X.mg X.base CX0 j f fd ps (spF S (m + dd.length) F)) (hr : Room j X.A) (hg : Gl X x) (hm : X.mg x = some (.ref f)) (hk : PySem.W.keepIn X.K (.ref f) = true) (hb : Binds X.K fd ps dv) (hv : Vals dvs dv)
    (hd : ∀ fd fl O H, Reps (S.gr fd fl) (hid O H) dd dvs)
    (ha : PA X (e :: es) (tAs S m fa)) (hdb : (x == ("__debug__" : Str)) = false := by decide) (he : starEach (e :: es) X.env = (false, eval e X.env) :: starEach es X.env := by rfl) (hpl : (backTo pos (starEach es X.env)).any (·.1) = false := by rfl) :
    PE X (.Call (.Name x p) (e :: es) [] pos) (tS S (xCallD F fa dd)) :=
  pem (pe_call G hr hg hm hk hb hv pass0 ha hdb he hpl) fun σ H Q ⟨fd, fl, O, ρ, n, R, eg, hf, hq⟩ => ⟨fd, fl, O, ρ, n, _, eg, hf, fun ds n1 vs H1 r1 hl ex1 rp =>
    ⟨fd, fl, O, n1, ds ++ dd, R, eg.gd.ex ex1, rp.append (hd _ _ _ _), by rw [List.length_append, hl], r1, fun d n' v H' hr ex r => hq d n' v H' hr (ex1.trans ex) r⟩⟩
/-! keywords -/
theorem pkm {kws : List Keyword} {t t' : TA} (h : PK X kws t) (hm : ∀ σ H Q, t' σ H Q → t σ H Q) : PK X kws t' := ⟨fun pos pins s σ H Q I q => h.run pos pins s σ H Q I (hm σ H Q q)⟩
theorem xknil : PK X [] (tAs S 0 xNil) := pkm pk_nil fun σ H Q ⟨fd, fl, O, ρ, n, R, eg, hf, hq⟩ => hq [] n [] H hf rfl eg.gd.rfl .nil
theorem xkcons {nm : Option Str} {kp : Pos} {e : Expr} {r : List Keyword} {fe : EX} {fr : En → M (List D)} (ha : PE X e (tS S fe)) (hr : PK X r (tAs S k fr)) : PK X (⟨nm, e, kp⟩ :: r) (tAs S (k + 1) (xCons fe fr)) :=
  pkm (pk_cons ha hr) fun σ H Q ⟨fd, fl, O, ρ, n, R, eg, hf, hq⟩ => ⟨fd, fl, O, ρ, n, _, eg, hf, fun d1 n1 v1 H1 r1 ex1 rp1 => ⟨fd, fl, O, ρ, n1, _, eg.ex ex1, r1, fun ds n2 vs H2 r2 hl ex2 rp2 =>
    hq _ n2 _ H2 r2 (by rw [List.length_cons, hl]) (ex1.trans ex2) (.cons ((eg.gd.ex ex1).rep ex2 rp1) rp2)⟩⟩
theorem xcallk {kws : List Keyword} {ks : List Str} {fk : En → M (List D)} (G : FnOk X.prog X.w X.K X.mg X.base CX0 j f fd ps (spF S (m + ks.length) F)) (hr : Room j X.A) (hg : Gl X x) (hm : X.mg x = some (.ref f)) (hk : PySem.W.keepIn X.K (.ref f) = true) (hb : KBn X.K fd ps m ks (fun us ws => us ++ ws) (fun vs zs => vs ++ zs))
    (ha : PA X (e :: es) (tAs S m fa)) (hkw : PK X kws (tAs S ks.length fk)) (hall : (backToKw pos (keywordEach kws X.env)).all (·.1.isSome) = true := by rfl) (hks : (backToKw pos (keywordEach kws X.env)).filterMap (·.1) = ks := by rfl)
    (hdb : (x == ("__debug__" : Str)) = false := by decide) (he : starEach (e :: es) X.env = (false, eval e X.env) :: starEach es X.env := by rfl)
    (hpl : ((backTo pos (starEach (e :: es) X.env)).any (·.1) || (backToKw pos (keywordEach kws X.env)).any (·.1.isNone)) = false := by rfl) :
    PE X (.Call (.Name x p) (e :: es) kws pos) (tS S (xCallK F fa fk)) :=
  pem (pe_callN G hr hg hm hk hb pass0 ha hkw hall hks hdb he hpl) fun σ H Q ⟨fd, fl, O, ρ, n, R, eg, hf, hq⟩ => ⟨fd, fl, O, ρ, n, _, eg, hf, fun ds n1 vs H1 r1 hl ex1 rp => ⟨fd, fl, O, ρ, n1, _, eg.ex ex1, r1, fun ds2 n2 vs2 H2 r2 hl2 ex2 rp2 => by
    refine ⟨by rw [← rp.length, hl], by rw [← rp2.length, hl2], fd, fl, O, n2, ds ++ ds2, R, (eg.gd.ex ex1).ex ex2, ((eg.gd.ex ex1).reps ex2 rp).append rp2, by rw [List.length_append, hl, hl2], r2, fun d n' v H' hr ex r => hq d n' v H' hr ((ex1.trans ex2).trans ex) r⟩⟩⟩
/-! methods -/
def xMeth (c : Nat) (F : FX) (o : EX) (as : En → M (List D)) : EX := fun ρ => bnd (o ρ) fun d => match d with
  | .obj c' xs => if c' = c then bnd (as ρ) fun ds => F (.obj c' xs :: ds) else nay
  | _ => nay
theorem lookup_zip_none : ∀ {ns : List Str} {vs : List V} {f : Str}, f ∉ ns → (ns.zip vs).lookup f = none
  | [], vs, f, _ => rfl
  | a :: ns, [], f, _ => rfl
  | a :: ns, v :: vs, f, h => by
    show List.lookup f ((a, v) :: ns.zip vs) = none
    rw [List.mem_cons, not_or] at h
    have : (f == a) = false := by rw [beq_eq_false_iff_ne]; exact h.1
    rw [List.lookup_cons, this]
    exact lookup_zip_none h.2
theorem xmeth {c : Nat} {pl : Sem Bool} (hK : X.K = S.K) (he : PE X o (tS S fo)) (hc : ClsOk S c) (hn : mn ∉ S.nms c) (hm : Meth S.K (S.cls c) mn f) (G : FnOk X.prog X.w X.K X.mg X.base CX0 j f fd ps (spF S (m + 1) F)) (hr : Room j X.A) (hb : Binds X.K fd ps []) (ha : PA X (e :: es) (tAs S m fa))
    (hst : starEach (e :: es) X.env = (false, eval e X.env) :: starEach es X.env := by rfl) (hpl : (backTo pos (starEach es X.env)).any (·.1) = false := by rfl)
    (ht : eval (.Call (.Attribute o mn apos) (e :: es) [] pos) X.env = (do
      let ov ← eval o X.env
      standAt apos.atName
      let (f, first) ← holding [ov] (getMethod ov mn pl)
      callWith pos f first (backTo pos (starEach (e :: es) X.env)) (backToKw pos (keywordEach [] X.env))) := by rfl) :
    PE X (.Call (.Attribute o mn apos) (e :: es) [] pos) (tS S (xMeth c F fo fa)) :=
  pem (pe_meth he (by rw [hK]; exact hc.ins.cl) (by rw [hK]; exact hm) G hr hb .nil pass0 ha hst hpl ht) fun σ H Q ⟨fd, fl, O, ρ, n, R, eg, hf, hq⟩ => ⟨fd, fl, O, ρ, n, _, eg, hf, fun d1 n1 v1 H1 r1 ex1 w1 => by
    cases d1 with
    | obj c' xs =>
      have r1' : (if c' = c then bnd (fa ρ) fun ds => F (.obj c' xs :: ds) else nay) n1 R NoX := r1
      by_cases hcc : c' = c
      · subst hcc
        rw [if_pos rfl] at r1'
        obtain ⟨a, dx, vs, rfl, h2, h3, h4⟩ := rep_obj.mp w1
        refine ⟨a, dx, _, rfl, hid_le _ _ h2, lookup_zip_none hn, fd, fl, O, ρ, n1, _, eg.ex ex1, r1', fun ds n2 vs2 H2 r2 hl ex2 rp => ?_⟩
        show spF S (m + 1) F (.ref a :: (vs2 ++ [])) H2 Q E0
        rw [List.append_nil]
        have g1 := eg.gd.ex ex1
        exact ⟨fd, fl, O, n2, _ :: ds, R, g1.ex ex2, .cons (g1.rep ex2 w1) rp, by rw [List.length_cons, hl], r2, fun d n' v H' hr ex r => hq d n' v H' hr ((ex1.trans ex2).trans ex) r⟩
      · rw [if_neg hcc] at r1'; exact r1'.elim
    | _ => exact r1.elim⟩
theorem xmeth0 {c : Nat} {pl : Sem Bool} (hK : X.K = S.K) (he : PE X o (tS S fo)) (hc : ClsOk S c) (hn : mn ∉ S.nms c) (hm : Meth S.K (S.cls c) mn f) (G : FnOk X.prog X.w X.K X.mg X.base CX0 j f fd ps (spF S 1 F)) (hr : Room j X.A) (hb : Binds X.K fd ps [])
    (ht : eval (.Call (.Attribute o mn apos) [] [] pos) X.env = (do
      let ov ← eval o X.env
      standAt apos.atName
      let (f, first) ← holding [ov] (getMethod ov mn pl)
      callWith pos f first (backTo pos (starEach [] X.env)) (backToKw pos (keywordEach [] X.env))) := by rfl) :
    PE X (.Call (.Attribute o mn apos) [] [] pos) (tS S (xMeth c F fo xNil)) :=
  pem (pe_meth0 he (by rw [hK]; exact hc.ins.cl) (by rw [hK]; exact hm) G hr hb .nil pass0 ht) fun σ H Q ⟨fd, fl, O, ρ, n, R, eg, hf, hq⟩ => ⟨fd, fl, O, ρ, n, _, eg, hf, fun d1 n1 v1 H1 r1 ex1 w1 => by
    cases d1 with
    | obj c' xs =>
      have r1' : (if c' = c then bnd (xNil ρ) fun ds => F (.obj c' xs :: ds) else nay) n1 R NoX := r1
      by_cases hcc : c' = c
      · subst hcc
        rw [if_pos rfl] at r1'
        obtain ⟨a, dx, vs, rfl, h2, h3, h4⟩ := rep_obj.mp w1
        exact ⟨a, dx, _, rfl, hid_le _ _ h2, lookup_zip_none hn, fd, fl, O, n1, [_], R, eg.gd.ex ex1, .cons w1 .nil, rfl, r1', fun d n' v H' hr ex r => hq d n' v H' hr (ex1.trans ex) r⟩
      · rw [if_neg hcc] at r1'; exact r1'.elim
    | _ => exact r1.elim⟩
/-! new objects -/
theorem made_ex {G : Gr} {O : Addr → Bool} {n m : Nat} {H1 H' : Hp} {y dx : Addr} {C : Addr} (g : Gd G O n H1) (e : Ex G m H1 H') : True := trivial
theorem xmake {c : Nat} (hK : X.K = S.K) (M : Mk S.K (S.cls c) f) (G : FnOk X.prog X.w X.K X.mg X.base CX0 j f fd ps (spI S c m F)) (hr : Room (j + 1) X.A) (hg : Gl X x) (hm : X.mg x = some (.ref (S.cls c))) (hb : Binds X.K fd ps [])
    (ha : PA X (e :: es) (tAs S m fa)) (hdb : (x == ("__debug__" : Str)) = false := by decide) (he : starEach (e :: es) X.env = (false, eval e X.env) :: starEach es X.env := by rfl) (hpl : (backTo pos (starEach es X.env)).any (·.1) = false := by rfl) :
    PE X (.Call (.Name x p) (e :: es) [] pos) (tS S (xCall F fa)) :=
  pem (pe_make (by rw [hK]; exact M) G hr hg hm hb .nil pass0 ha hdb he hpl) fun σ H Q ⟨fd, fl, O, ρ, n, R, eg, hf, hq⟩ => ⟨fd, fl, O, ρ, n, _, eg, hf, fun ds n1 vs H1 r1 hl ex1 rp => fun y dx ny nd ne => by
    show spI S c m F (.ref y :: (vs ++ [])) _ _ E0
    rw [List.append_nil]
    exact ⟨fd, fl, O, n1, ds, R, H1, y, dx, vs, eg.gd.ex ex1, rfl, ny, nd, ne, rfl, rp, hl, r1, fun d n' H' hr ex r => ⟨rfl, hq d n' _ H' hr (ex1.trans ex) r⟩⟩⟩
theorem xmaked {c : Nat} {dvs : List V} {dv : List Value} {dd : List D} (hK : X.K = S.K) (M : Mk S.K (S.cls c) f) (G : FnOk X.prog X.w X.K X.mg X.base CX0 j f fd ps (spI S c (m + dd.length) F)) (hr : Room (j + 1) X.A) (hg : Gl X x) (hm : X.mg x = some (.ref (S.cls c))) (hb : Binds X.K fd ps dv) (hv : Vals dvs dv)
    (hd : ∀ fd fl O H, Reps (S.gr fd fl) (hid O H) dd dvs)
    (ha : PA X (e :: es) (tAs S m fa)) (hdb : (x == ("__debug__" : Str)) = false := by decide) (he : starEach (e :: es) X.env = (false, eval e X.env) :: starEach es X.env := by rfl) (hpl : (backTo pos (starEach es X.env)).any (·.1) = false := by rfl) :
    PE X (.Call (.Name x p) (e :: es) [] pos) (tS S (xCallD F fa dd)) :=
  pem (pe_make (by rw [hK]; exact M) G hr hg hm hb hv pass0 ha hdb he hpl) fun σ H Q ⟨fd, fl, O, ρ, n, R, eg, hf, hq⟩ => ⟨fd, fl, O, ρ, n, _, eg, hf, fun ds n1 vs H1 r1 hl ex1 rp => fun y dx ny nd ne =>
    ⟨fd, fl, O, n1, ds ++ dd, R, H1, y, dx, vs ++ dvs, eg.gd.ex ex1, rfl, ny, nd, ne, rfl, rp.append (hd _ _ _ _), by rw [List.length_append, hl], r1, fun d n' H' hr ex r => ⟨rfl, hq d n' _ H' hr (ex1.trans ex) r⟩⟩⟩
theorem xmakek {c : Nat} {kws : List Keyword} {ks : List Str} {fk : En → M (List D)} (hK : X.K = S.K) (M : Mk S.K (S.cls c) f) (G : FnOk X.prog X.w X.K X.mg X.base CX0 j f fd ps (spI S c (m + ks.length) F)) (hr : Room (j + 1) X.A) (hg : Gl X x) (hm : X.mg x = some (.ref (S.cls c))) (hb : KBn X.K fd ps (m + 1) ks (fun us ws => us ++ ws) (fun vs zs => vs ++ zs))
    (ha : PA X (e :: es) (tAs S m fa)) (hkw : PK X kws (tAs S ks.length fk)) (hall : (backToKw pos (keywordEach kws X.env)).all (·.1.isSome) = true := by rfl) (hks : (backToKw pos (keywordEach kws X.env)).filterMap (·.1) = ks := by rfl)
    (hdb : (x == ("__debug__" : Str)) = false := by decide) (he : starEach (e :: es) X.env = (false, eval e X.env) :: starEach es X.env := by rfl)
    (hpl : ((backTo pos (starEach (e :: es) X.env)).any (·.1) || (backToKw pos (keywordEach kws X.env)).any (·.1.isNone)) = false := by rfl) :
    PE X (.Call (.Name x p) (e :: es) kws pos) (tS S (xCallK F fa fk)) :=
  pem (pe_makeN (by rw [hK]; exact M) G hr hg hm hb pass0 ha hkw hall hks hdb he hpl) fun σ H Q ⟨fd, fl, O, ρ, n, R, eg, hf, hq⟩ => ⟨fd, fl, O, ρ, n, _, eg, hf, fun ds n1 vs H1 r1 hl ex1 rp => ⟨fd, fl, O, ρ, n1, _, eg.ex ex1, r1, fun ds2 n2 vs2 H2 r2 hl2 ex2 rp2 =>
    ⟨by rw [← rp.length, hl], by rw [← rp2.length, hl2], fun y dx ny nd ne => ⟨fd, fl, O, n2, ds ++ ds2, R, H2, y, dx, vs ++ vs2, (eg.gd.ex ex1).ex ex2, rfl, ny, nd, ne, rfl, ((eg.gd.ex ex1).reps ex2 rp).append rp2, by rw [List.length_append, hl, hl2], r2, fun d n' H' hr ex r => ⟨rfl, hq d n' _ H' hr ((ex1.trans ex2).trans ex) r⟩⟩⟩⟩⟩
end
end Pu
set_option Elab.async false
set_option linter.all false
set_option maxRecDepth 100000
set_option maxHeartbeats 4000000
namespace Pu
open PySem PySem.Spec PyProof.Rows L2 Fd Tx
/-! ### statements -/
inductive Ct where
  | nx (ρ : En) | rt (d : D) | bk (ρ : En) | ct (ρ : En)
abbrev SX := En → M Ct
/-- the state of a def's body: O0, H0 the entry; O off limits now -/
structure SG (G : Gr) (O0 : Addr → Bool) (H0 : Hp) (sf : Option Addr) (ρ : En) (O : Addr → Bool) (n : Nat) (σ : L2.St) (H : Hp) : Prop where
  gd0 : ∃ n0, Gd G O0 n0 H0
  ex : Ex G n H0 H
  eg : EG G O ρ n σ H
  sub : ∀ a, O0 a = true → O a = true
  own : ∀ a, O a = true → O0 a = false → H0 a = none
  dis : ∀ (i j : Nat) (d e : D) (p : Addr), ρ[i]? = some (.ow d) → ρ[j]? = some (.ow e) → σ[i]? = some (some (.ref p)) → σ[j]? = some (some (.ref p)) → i = j
  of0 : ∀ (i : Nat) (d : D) (p : Addr), ρ[i]? = some (.ow d) → σ[i]? = some (some (.ref p)) → O0 p = false
  self : ∀ x, sf = some x → (∃ c xs, ρ[0]? = some (.ow (.obj c xs))) ∧ σ[0]? = some (some (.ref x))
def EndOk (G : Gr) (O0 : Addr → Bool) (H0 : Hp) (sf : Option Addr) (O : Addr → Bool) (H : Hp) (D : Ends) (n' : Nat) : Ct → Prop
  | .nx ρ' => ∀ O' σ' H', SG G O0 H0 sf ρ' O' n' σ' H' → Fr O H O' H' → D.nx σ' H'
  | .bk ρ' => ∀ O' σ' H', SG G O0 H0 sf ρ' O' n' σ' H' → Fr O H O' H' → D.bk σ' H'
  | .ct ρ' => ∀ O' σ' H', SG G O0 H0 sf ρ' O' n' σ' H' → Fr O H O' H' → D.ct σ' H'
  | .rt d => ∀ v H', Ex G n' H0 H' → Rep G (hid O0 H') d v → D.rt v H'
def tStm (S : Sa) (f : SX) : TS := fun D σ H => ∃ fd fl O0 H0 sf ρ O n R, SG (S.gr fd fl) O0 H0 sf ρ O n σ H ∧ f ρ n R NoX ∧ ∀ c n', R c n' → EndOk (S.gr fd fl) O0 H0 sf O H D n' c
section
variable {sf : Option Addr} {G : Gr} {O0 O O' : Addr → Bool} {H0 H H' : Hp} {ρ : En} {n m : Nat} {σ : L2.St} {D : Ends}
theorem EndOk.fr {c : Ct} (h : EndOk G O0 H0 sf O H D n c) (f : Fr O H O' H') : EndOk G O0 H0 sf O' H' D n c := by
  cases c with
  | nx ρ' => exact fun O2 σ2 H2 sg f2 => h O2 σ2 H2 sg (f.trans f2)
  | bk ρ' => exact fun O2 σ2 H2 sg f2 => h O2 σ2 H2 sg (f.trans f2)
  | ct ρ' => exact fun O2 σ2 H2 sg f2 => h O2 σ2 H2 sg (f.trans f2)
  | rt d => exact h
/-- behind an expression -/
theorem SG.to (s : SG G O0 H0 sf ρ O n σ H) (e : Ex G m H H') : SG G O0 H0 sf ρ O m σ H' := ⟨s.gd0, s.ex.trans e, s.eg.ex e, s.sub, s.own, s.dis, s.of0, s.self⟩
theorem SG.ofd (s : SG G O0 H0 sf ρ O n σ H) : O0 G.fd = true := let ⟨_, g⟩ := s.gd0; g.ofd
theorem SG.gd1 (s : SG G O0 H0 sf ρ O n σ H) : Gd G O0 n H := let ⟨_, g⟩ := s.gd0; g.ex s.ex
theorem SG.setF (s : SG G O0 H0 sf ρ O n σ H) (i : Nat) {d : Pu.D} {v : V} (ho : noOb ρ[i]? = true) (r : Rep G (hid O H) d v) : SG G O0 H0 sf (ρ.set i (.fz d)) O n (σ.set i (some v)) H := by
  have key : ∀ (j : Nat) (e : Pu.D), (ρ.set i (.fz d))[j]? = some (.ow e) → ρ[j]? = some (.ow e) ∧ (σ.set i (some v))[j]? = σ[j]? := fun j e h => (tgt_set (ρ := ρ) (σ := σ) (i := i) (d := d) (v := v) ho).2.2.1 j e h
  refine ⟨s.gd0, s.ex, s.eg.set i r, s.sub, s.own, fun a b d' e' p h1 h2 h3 h4 => ?_, fun a d' p h1 h2 => ?_, fun x hx => ?_⟩
  · obtain ⟨k1, k2⟩ := key a d' h1
    obtain ⟨k3, k4⟩ := key b e' h2
    exact s.dis a b d' e' p k1 k3 (by rw [← k2]; exact h3) (by rw [← k4]; exact h4)
  · obtain ⟨k1, k2⟩ := key a d' h1
    exact s.of0 a d' p k1 (by rw [← k2]; exact h2)
  · obtain ⟨⟨c, xs, h1⟩, h2⟩ := s.self x hx
    obtain ⟨h3, h4⟩ := (tgt_set (ρ := ρ) (σ := σ) (i := i) (d := d) (v := v) ho).2.2.2 0 c xs h1
    exact ⟨⟨c, xs, h3⟩, h4.trans h2⟩
theorem SG.tgt (s : SG G O0 H0 sf ρ O n σ H) {vs : List Nat} {ρ' : En} {σ' : L2.St} (e : EG G O ρ' n σ' H) (t : Tgt vs ρ σ ρ' σ') : SG G O0 H0 sf ρ' O n σ' H := by
  refine ⟨s.gd0, s.ex, e, s.sub, s.own, fun a b d' e' p h1 h2 h3 h4 => ?_, fun a d' p h1 h2 => ?_, fun x hx => ?_⟩
  · obtain ⟨k1, k2⟩ := t.2.2.1 a d' h1
    obtain ⟨k3, k4⟩ := t.2.2.1 b e' h2
    exact s.dis a b d' e' p k1 k3 (by rw [← k2]; exact h3) (by rw [← k4]; exact h4)
  · obtain ⟨k1, k2⟩ := t.2.2.1 a d' h1
    exact s.of0 a d' p k1 (by rw [← k2]; exact h2)
  · obtain ⟨⟨c, xs, h1⟩, h2⟩ := s.self x hx
    obtain ⟨h3, h4⟩ := t.2.2.2 0 c xs h1
    exact ⟨⟨c, xs, h3⟩, h4.trans h2⟩
/-- a new object becomes one's own -/
theorem SG.setO (s : SG G O0 H0 sf ρ O n σ H) (i : Nat) {d : Pu.D} {p : Addr} (ho : noOb ρ[i]? = true) (e : Ex G m H H') (hp : H p = none) (hf : p ≠ G.fd) (r : RepO G (offO O p) H' p d) : SG G O0 H0 sf (ρ.set i (.ow d)) (offO O p) m (σ.set i (some (.ref p))) H' ∧ Fr O H (offO O p) H' := by
  have hD' : H' p ≠ none := by
    cases d with
    | lst xs => obtain ⟨vs, h, _⟩ := r; rw [h]; exact fun z => nomatch z
    | dic ks xs => obtain ⟨vs, h, _⟩ := r; rw [h]; exact fun z => nomatch z
    | dct ks xs => obtain ⟨vs, h, _⟩ := r; rw [h]; exact fun z => nomatch z
    | obj c xs => obtain ⟨dx, vs, h, _⟩ := r; rw [h]; exact fun z => nomatch z
    | _ => exact r.elim
  have eg := s.eg.off e hp hD'
  have h0p : H0 p = none := by
    cases q : H0 p with
    | none => rfl
    | some o => rw [s.ex.keep p o hf q] at hp; cases hp
  have hO0 : O0 p = false := by
    obtain ⟨n0, g0⟩ := s.gd0
    exact g0.off h0p
  have old : ∀ (j : Nat) (q : Addr) (d' : Pu.D), ρ[j]? = some (.ow d') → σ[j]? = some (some (.ref q)) → q ≠ p := fun j q d' h1 h2 z => by
    subst z
    obtain ⟨q', h3, h4, h5, h6⟩ := s.eg.ow j d' h1
    rw [h2] at h3; cases h3
    exact (s.eg.gd.alc q h4) hp
  have key : ∀ (j : Nat) (e' : Pu.D), (ρ.set i (.ow d))[j]? = some (.ow e') → (j = i ∧ e' = d ∧ i < ρ.length) ∨ (j ≠ i ∧ ρ[j]? = some (.ow e') ∧ (σ.set i (some (.ref p)))[j]? = σ[j]?) := fun j e' h => by
    by_cases hj : i = j
    · subst hj
      rw [List.getElem?_set_self'] at h
      cases q : ρ[i]? with
      | none => rw [q] at h; cases h
      | some z =>
        rw [q] at h
        cases h
        exact .inl ⟨rfl, rfl, (List.getElem?_eq_some_iff.mp q).1⟩
    · rw [List.getElem?_set_ne hj] at h
      exact .inr ⟨Ne.symm hj, h, by rw [List.getElem?_set_ne hj]⟩
  have hself : i < ρ.length → (σ.set i (some (.ref p)))[i]? = some (some (V.ref p)) := fun hl => List.getElem?_set_self (by rw [← s.eg.len]; exact hl)
  refine ⟨⟨s.gd0, s.ex.trans e, ⟨eg.gd, by rw [List.length_set, List.length_set]; exact s.eg.len, fun j d' h => ?_, fun j d' h => ?_⟩, fun a ha => offO_le (s.sub a ha), fun a ha h0 => ?_, fun a b d' e' q h1 h2 h3 h4 => ?_, fun a d' q h1 h2 => ?_, fun x hx => ?_⟩, s.eg.gd.frOff e hp⟩
  · by_cases hj : i = j
    · subst hj
      rw [List.getElem?_set_self'] at h
      cases q : ρ[i]? with
      | none => rw [q] at h; cases h
      | some z => rw [q] at h; cases h
    · rw [List.getElem?_set_ne hj] at h
      rw [List.getElem?_set_ne hj]
      exact eg.fz j d' h
  · rcases key j d' h with ⟨rfl, rfl, hl⟩ | ⟨hj, h', h''⟩
    · exact ⟨p, hself hl, offO_self, hf, r⟩
    · rw [h'']
      exact eg.ow j d' h'
  · by_cases ap : a = p
    · rw [ap]; exact h0p
    · rw [offO_ne ap] at ha; exact s.own a ha h0
  · rcases key a d' h1 with ⟨rfl, _, hl⟩ | ⟨ha, h1', h1''⟩
    · rcases key b e' h2 with ⟨rfl, _, _⟩ | ⟨hb, h2', h2''⟩
      · rfl
      · rw [hself hl] at h3
        cases h3
        rw [h2''] at h4
        exact absurd rfl (old b p e' h2' h4)
    · rcases key b e' h2 with ⟨rfl, _, hl⟩ | ⟨hb, h2', h2''⟩
      · rw [hself hl] at h4
        cases h4
        rw [h1''] at h3
        exact absurd rfl (old a p d' h1' h3)
      · exact s.dis a b d' e' q h1' h2' (by rw [← h1'']; exact h3) (by rw [← h2'']; exact h4)
  · rcases key a d' h1 with ⟨rfl, _, hl⟩ | ⟨ha, h1', h1''⟩
    · rw [hself hl] at h2
      cases h2
      exact hO0
    · exact s.of0 a d' q h1' (by rw [← h1'']; exact h2)
  · obtain ⟨⟨c, xs, h1⟩, h2⟩ := s.self x hx
    have hi0 : i ≠ 0 := by
      rintro rfl
      rw [h1] at ho; cases ho
    exact ⟨⟨c, xs, by rw [List.getElem?_set_ne hi0]; exact h1⟩, by rw [List.getElem?_set_ne hi0]; exact h2⟩
/-- what is one's own changes -/
theorem SG.upd (s : SG G O0 H0 sf ρ O n σ H) {i : Nat} {d d' : Pu.D} {p : Addr} {o : HO} (h1 : ρ[i]? = some (.ow d)) (h2 : σ[i]? = some (some (.ref p))) (hk : ∀ c xs, d = .obj c xs → ∃ c' ys, d' = .obj c' ys) (r : RepO G O (upd H p o) p d') : SG G O0 H0 sf (ρ.set i (.ow d')) O n σ (upd H p o) ∧ Fr O H O (upd H p o) := by
  obtain ⟨p', e1, hO, hf, r0⟩ := s.eg.ow i d h1
  rw [h2] at e1; cases e1
  have hil : i < ρ.length := (List.getElem?_eq_some_iff.mp h1).1
  have h0 := s.of0 i d p h1 h2
  have hp0 := s.own p hO h0
  have hfl : p ≠ G.fl := by
    rintro rfl
    obtain ⟨n0, g0⟩ := s.gd0
    obtain ⟨cs, F⟩ := g0.feed
    rw [F.ls] at hp0; cases hp0
  have hh : hid O (L2.upd H p o) = hid O H := hid_upd hO
  have fr : Fr O H O (L2.upd H p o) := fun b u hb hu => ⟨by rw [upd_ne (fun z => by rw [z, hO] at hb; cases hb)]; exact hu, hb⟩
  have fd' : FeedN G n (L2.upd H p o) := by
    obtain ⟨cs, ⟨a, f, ha, e⟩, q, z⟩ := s.eg.gd.feed
    exact ⟨cs, ⟨a, f, ha, by rw [upd_ne (Ne.symm hf)]; exact e⟩, by rw [upd_ne (Ne.symm hfl)]; exact q, z⟩
  have set_get : ∀ (j : Nat) (e' : Pu.D), (ρ.set i (.ow d'))[j]? = some (.ow e') → (j = i ∧ e' = d') ∨ (j ≠ i ∧ ρ[j]? = some (.ow e')) := fun j e' h => by
    by_cases hj : i = j
    · subst hj
      rw [List.getElem?_set_self hil] at h
      cases h
      exact .inl ⟨rfl, rfl⟩
    · rw [List.getElem?_set_ne hj] at h
      exact .inr ⟨Ne.symm hj, h⟩
  have was : ∀ (j : Nat) (e' : Pu.D), (ρ.set i (.ow d'))[j]? = some (.ow e') → ∃ e2, ρ[j]? = some (.ow e2) := fun j e' h => by
    rcases set_get j e' h with ⟨rfl, rfl⟩ | ⟨hj, h'⟩
    · exact ⟨d, h1⟩
    · exact ⟨e', h'⟩
  refine ⟨⟨s.gd0, ⟨fun b u hb hu => ?_, fd'⟩, ⟨⟨fd', s.eg.gd.ofd, fun a ha => ?_⟩, by rw [List.length_set]; exact s.eg.len, fun j e' h => ?_, fun j e' h => ?_⟩, s.sub, s.own, fun a b d1 e1 q k1 k2 k3 k4 => ?_, fun a d1 q k1 k2 => ?_, fun x hx => ?_⟩, fr⟩
  · rw [upd_ne (ne_of_none hu hp0)]
    exact s.ex.keep b u hb hu
  · by_cases ap : a = p
    · rw [ap, upd_same]; exact fun z => nomatch z
    · rw [upd_ne ap]; exact s.eg.gd.alc a ha
  · rw [hh]
    have hj : i ≠ j := by
      rintro rfl
      rw [List.getElem?_set_self hil] at h
      cases h
    rw [List.getElem?_set_ne hj] at h
    exact s.eg.fz j e' h
  · rcases set_get j e' h with ⟨rfl, rfl⟩ | ⟨hj, h'⟩
    · exact ⟨p, h2, hO, hf, r⟩
    · obtain ⟨q, q1, q2, q3, q4⟩ := s.eg.ow j e' h'
      have hqp : q ≠ p := fun z => by
        subst z
        exact hj (s.dis j i e' d q h' h1 q1 h2)
      exact ⟨q, q1, q2, q3, q4.fr fr fun u hu => by rw [upd_ne hqp]; exact hu⟩
  · obtain ⟨d2, k1'⟩ := was a d1 k1
    obtain ⟨e2, k2'⟩ := was b e1 k2
    exact s.dis a b d2 e2 q k1' k2' k3 k4
  · obtain ⟨d2, k1'⟩ := was a d1 k1
    exact s.of0 a d2 q k1' k2
  · obtain ⟨⟨c, xs, k1⟩, k2⟩ := s.self x hx
    refine ⟨?_, k2⟩
    by_cases hi0 : i = 0
    · subst hi0
      rw [h1] at k1
      obtain ⟨c', ys, rfl⟩ := hk c xs (Sl.ow.inj (Option.some.inj k1))
      exact ⟨c', ys, List.getElem?_set_self hil⟩
    · exact ⟨c, xs, by rw [List.getElem?_set_ne hi0]; exact k1⟩
/-- what is one's own becomes a datum -/
theorem SG.freeze (s : SG G O0 H0 sf ρ O n σ H) {i : Nat} {d : Pu.D} (h1 : ρ[i]? = some (.ow d)) (ho : ∀ c xs, d ≠ .obj c xs) : ∃ O', SG G O0 H0 sf (ρ.set i (.fz d)) O' n σ H ∧ Fr O H O' H := by
  obtain ⟨p, h2, hO, hf, r⟩ := s.eg.ow i d h1
  have hil : i < ρ.length := (List.getElem?_eq_some_iff.mp h1).1
  have h0 := s.of0 i d p h1 h2
  have sm : Same (hid O H) (hid (onO O p) H) := hid_mono fun a h => onO_le h
  have fr : Fr O H (onO O p) H := fun b u hb hu => ⟨hu, by
    by_cases e : b = p
    · rw [e]; exact onO_self
    · rw [onO_ne e]; exact hb⟩
  have hj : ∀ (j : Nat) (e' : Pu.D), (ρ.set i (.fz d))[j]? = some (.ow e') → j ≠ i ∧ ρ[j]? = some (.ow e') := fun j e' h => by
    by_cases hj : i = j
    · subst hj
      rw [List.getElem?_set_self hil] at h
      cases h
    · rw [List.getElem?_set_ne hj] at h
      exact ⟨Ne.symm hj, h⟩
  have rep : Rep G (hid (onO O p) H) d (.ref p) := by
    have : RepO G (offO (onO O p) p) H p d := by
      have e : offO (onO O p) p = O := by
        funext a
        by_cases ap : a = p
        · rw [ap, offO_self, hO]
        · rw [offO_ne ap, onO_ne ap]
      rw [e]
      exact r
    exact RepO.rep onO_self this ho
  refine ⟨onO O p, ⟨s.gd0, s.ex, ⟨⟨s.eg.gd.feed, ?_, fun a ha => s.eg.gd.alc a (onO_le ha)⟩, by rw [List.length_set]; exact s.eg.len, fun j e' h => ?_, fun j e' h => ?_⟩, fun a ha => ?_, fun a ha => s.own a (onO_le ha), fun a b d1 e1 q k1 k2 k3 k4 => ?_, fun a d1 q k1 k2 => ?_, fun x hx => ?_⟩, fr⟩
  · rw [onO_ne (Ne.symm hf)]; exact s.eg.gd.ofd
  · by_cases hij : i = j
    · subst hij
      rw [List.getElem?_set_self hil] at h
      cases h
      exact ⟨_, h2, rep⟩
    · rw [List.getElem?_set_ne hij] at h
      obtain ⟨v, q1, q2⟩ := s.eg.fz j e' h
      exact ⟨v, q1, q2.same sm⟩
  · obtain ⟨hji, h'⟩ := hj j e' h
    obtain ⟨q, q1, q2, q3, q4⟩ := s.eg.ow j e' h'
    have hqp : q ≠ p := fun z => by
      subst z
      exact hji (s.dis j i e' d q h' h1 q1 h2)
    exact ⟨q, q1, by rw [onO_ne hqp]; exact q2, q3, q4.fr fr fun _ h => h⟩
  · rw [onO_ne (fun z => by rw [z, h0] at ha; cases ha)]
    exact s.sub a ha
  · exact s.dis a b d1 e1 q (hj a d1 k1).2 (hj b e1 k2).2 k3 k4
  · exact s.of0 a d1 q (hj a d1 k1).2 k2
  · obtain ⟨⟨c, xs, k1⟩, k2⟩ := s.self x hx
    have hi0 : i ≠ 0 := by
      rintro rfl
      rw [h1] at k1
      exact ho c xs (Sl.ow.inj (Option.some.inj k1))
    exact ⟨⟨c, xs, by rw [List.getElem?_set_ne hi0]; exact k1⟩, k2⟩
end
/-! ### blocks -/
def sNil : SX := fun ρ => ret (.nx ρ)
def sSeq (f g : SX) : SX := fun ρ => bnd (f ρ) fun c => match c with
  | .nx ρ' => g ρ'
  | .rt d => ret (.rt d)
  | .bk ρ' => ret (.bk ρ')
  | .ct ρ' => ret (.ct ρ')
def sExpr (f : EX) : SX := fun ρ => bnd (f ρ) fun _ => ret (.nx ρ)
def chk (b : Bool) {α : Type} (m : M α) : M α := if b = true then m else nay
theorem chk_true {α : Type} (m : M α) : chk true m = m := rfl
theorem chk_iff {b : Bool} {α : Type} {m : M α} {n : Nat} {Q : α → Nat → Prop} {E : Xn → Nat → Prop} (h : chk b m n Q E) : b = true ∧ m n Q E := by
  cases b with
  | true => exact ⟨rfl, h⟩
  | false => exact h.elim
def sSet (i : Nat) (f : EX) : SX := fun ρ => chk (noOb ρ[i]?) (bnd (f ρ) fun d => ret (.nx (ρ.set i (.fz d))))
def sOwn (i : Nat) (f : EX) : SX := fun ρ => chk (noOb ρ[i]?) (bnd (f ρ) fun d => ret (.nx (ρ.set i (.ow d))))
def sAsg (g : GX) (f : EX) : SX := fun ρ => bnd (f ρ) fun d => bnd (lft (g d ρ)) fun ρ' => ret (.nx ρ')
def sRet (f : EX) : SX := fun ρ => bnd (f ρ) fun d => ret (.rt d)
def sRetN : SX := fun _ => ret (.rt .non)
def sIf (t : En → M Bool) (a b : SX) : SX := fun ρ => bnd (t ρ) fun k => if k = true then a ρ else b ρ
def sBrk : SX := fun ρ => ret (.bk ρ)
def sCnt : SX := fun ρ => ret (.ct ρ)
section
variable {X : Cx} {S : Sa} {st : Stmt} {sts : List Stmt} {f g : SX} {e : Expr} {fe : EX} {pos : Pos}
theorem psm {t t' : TS} (h : PS X st t) (hm : ∀ D σ H, t' D σ H → t D σ H) : PS X st t' := ⟨fun pins s σ H D I q => h.run pins s σ H D I (hm D σ H q)⟩
theorem pssm {t t' : TS} (h : PSs X sts t) (hm : ∀ D σ H, t' D σ H → t D σ H) : PSs X sts t' := ⟨fun pins s σ H D I q => h.run pins s σ H D I (hm D σ H q)⟩
theorem ynil : PSs X [] (tStm S sNil) := pssm pss_nil fun D σ H ⟨fd, fl, O0, H0, sf, ρ, O, n, R, sg, hf, hq⟩ => hq (.nx ρ) n hf O σ H sg .refl
theorem ycons (h1 : PS X st (tStm S f)) (h2 : PSs X sts (tStm S g)) : PSs X (st :: sts) (tStm S (sSeq f g)) :=
  pssm (pss_cons h1 h2) fun D σ H ⟨fd, fl, O0, H0, sf, ρ, O, n, R, sg, hf, hq⟩ => ⟨fd, fl, O0, H0, sf, ρ, O, n, _, sg, hf, fun c n' hr => by
    cases c with
    | nx ρ' => exact fun O' σ' H' sg' fr => ⟨fd, fl, O0, H0, sf, ρ', O', n', R, sg', hr, fun c n'' h => (hq c n'' h).fr fr⟩
    | rt d => exact hq (.rt d) n' hr
    | bk ρ' => exact hq (.bk ρ') n' hr
    | ct ρ' => exact hq (.ct ρ') n' hr⟩
theorem yone (h1 : PS X st (tStm S f)) : PSs X [st] (tStm S f) := pss_one h1
theorem yexpr (he : PE X e (tW S fe)) (hs : swapsWith e none pos.line X.env = pure false := by rfl) : PS X (.Expr e pos) (tStm S (sExpr fe)) :=
  psm (ps_expr he hs) fun D σ H ⟨fd, fl, O0, H0, sf, ρ, O, n, R, sg, hf, hq⟩ => ⟨fd, fl, O, ρ, n, _, sg.eg, hf, fun d n' v H' r ex _ => hq (.nx ρ) n' r O σ H' (sg.to ex) (sg.eg.gd.fr ex)⟩
theorem ydoc {i : Str} {j pos'} (h : PS X (.Expr (.Constant (.str i) j pos') pos) tNext) : PS X (.Expr (.Constant (.str i) j pos') pos) (tStm S sNil) :=
  psm h fun D σ H ⟨fd, fl, O0, H0, sf, ρ, O, n, R, sg, hf, hq⟩ => hq (.nx ρ) n hf O σ H sg .refl
theorem ypass : PS X (.Pass pos) (tStm S sNil) := psm ps_pass fun D σ H ⟨fd, fl, O0, H0, sf, ρ, O, n, R, sg, hf, hq⟩ => hq (.nx ρ) n hf O σ H sg .refl
theorem ybrk : PS X (.Break pos) (tStm S sBrk) := psm ps_break fun D σ H ⟨fd, fl, O0, H0, sf, ρ, O, n, R, sg, hf, hq⟩ => hq (.bk ρ) n hf O σ H sg .refl
theorem ycnt : PS X (.Continue pos) (tStm S sCnt) := psm ps_continue fun D σ H ⟨fd, fl, O0, H0, sf, ρ, O, n, R, sg, hf, hq⟩ => hq (.ct ρ) n hf O σ H sg .refl
theorem set_of {i : Nat} : ∀ D σ H, tStm S (sSet i fe) D σ H → tAsg (tS S fe) (gName i) D σ H := fun D σ H ⟨fd, fl, O0, H0, sf, ρ, O, n, R, sg, hf, hq⟩ => ⟨fd, fl, O, ρ, n, _, sg.eg, (chk_iff hf).2, fun d n' v H' r ex rp =>
    hq _ n' r O _ H' ((sg.to ex).setF i (chk_iff hf).1 rp) (sg.eg.gd.fr ex)⟩
theorem yset {i : Nat} {x : Str} {pos' : Pos} (hN : X.N.Nodup) (hi : X.N[i]? = some x) (hx : Loc X.env.scope x) (he : PE X e (tS S fe)) (hs : swapsWith e (some (.Name x pos')) pos.line X.env = pure false := by rfl) (hf : X.fn x = true ∨ X.env.scope.names.lookup x = some .local := by first | exact .inl rfl | exact .inr rfl | assumption) :
    PS X (.Assign [.Name x pos'] e pos) (tStm S (sSet i fe)) := psm (ps_set hN hi hx he hs hf) set_of
theorem own_of {i : Nat} : ∀ D σ H, tStm S (sOwn i fe) D σ H → tAsg (tF S fe) (gName i) D σ H := fun D σ H ⟨fd, fl, O0, H0, sf, ρ, O, n, R, sg, hf, hq⟩ => ⟨fd, fl, O, ρ, n, _, sg.eg, (chk_iff hf).2, fun d n' p H' r ex hp hpf ro ho => by
    obtain ⟨sg', fr⟩ := sg.setO i (chk_iff hf).1 ex hp hpf ro
    exact hq _ n' r _ _ H' sg' fr⟩
theorem yown {i : Nat} {x : Str} {pos' : Pos} (hN : X.N.Nodup) (hi : X.N[i]? = some x) (hx : Loc X.env.scope x) (he : PE X e (tF S fe)) (hs : swapsWith e (some (.Name x pos')) pos.line X.env = pure false := by rfl) (hf : X.fn x = true ∨ X.env.scope.names.lookup x = some .local := by first | exact .inl rfl | exact .inr rfl | assumption) :
    PS X (.Assign [.Name x pos'] e pos) (tStm S (sOwn i fe)) := psm (ps_set hN hi hx he hs hf) own_of
theorem yasg {tg : Expr} {gx : GX} {vs : List Nat} (he : PE X e (tS S fe)) (hg : PG X tg (tG S gx vs)) (hs : swapsWithSole [tg] e pos.line X.env = pure false := by rfl) (hw : swappedStores [tg] e X.env = pure none := by rfl)
    (h1 : (assignEach [tg] X.env).map (·.2) = [assign tg X.env] := by rfl) : PS X (.Assign [tg] e pos) (tStm S (sAsg gx fe)) :=
  psm (ps_asg he hg hs hw h1) fun D σ H ⟨fd, fl, O0, H0, sf, ρ, O, n, R, sg, hf, hq⟩ => ⟨fd, fl, O, ρ, n, _, sg.eg, hf, fun d n' v H' r ex rp => by
    obtain ⟨ρ', eρ, hr⟩ := lft_iff r
    exact ⟨fd, fl, O, ρ, n', d, ρ', (sg.to ex).eg, rp, eρ, fun σ' eg' tg' => hq _ n' hr O σ' H' ((sg.to ex).tgt eg' tg') (sg.eg.gd.fr ex)⟩⟩
theorem yret (he : PE X e (tS S fe)) : PS X (.Return (some e) pos) (tStm S (sRet fe)) :=
  psm (ps_ret he) fun D σ H ⟨fd, fl, O0, H0, sf, ρ, O, n, R, sg, hf, hq⟩ => ⟨fd, fl, O, ρ, n, _, sg.eg, hf, fun d n' v H' r ex wp =>
    hq (.rt d) n' r v H' (sg.to ex).ex (wp.same (hid_mono sg.sub))⟩
/-- return x, x perhaps one's own -/
theorem yretv {i : Nat} {x : Str} {p : Pos} (h : PE X (.Name x p) (tVar i)) : PS X (.Return (some (.Name x p)) pos) (tStm S (sRet (xV i))) :=
  psm (ps_ret h) fun D σ H ⟨fd, fl, O0, H0, sf, ρ, O, n, R, sg, hf, hq⟩ => by
    obtain ⟨d, ed, r⟩ := lft_iff hf
    unfold getV at ed
    split at ed
    · rename_i d' e'
      cases ed
      obtain ⟨v, h1, h2⟩ := sg.eg.fz i d e'
      exact ⟨v, h1, hq (.rt d) n r v H sg.ex (h2.same (hid_mono sg.sub))⟩
    · rename_i d' e'
      obtain ⟨rfl, hno⟩ := notObj_some ed
      obtain ⟨p, h1, h2, h3, h4⟩ := sg.eg.ow i d e'
      have hp0 := sg.of0 i d p e' h1
      have e0 : ∀ b o, hid O H b = some o → hid O0 H b = some o := hid_mono sg.sub
      refine ⟨_, h1, hq (.rt d) n r _ H sg.ex ?_⟩
      cases d with
      | lst xs => obtain ⟨vs, k1, k2⟩ := h4; exact rep_lst.mpr ⟨p, vs, rfl, hid_of hp0 k1, k2.same e0⟩
      | dic ks xs => obtain ⟨vs, k1, k2, k3⟩ := h4; exact rep_dic.mpr ⟨p, vs, rfl, Rd.of (hid_of hp0 k1), k2, k3.same e0⟩
      | dct ks xs => obtain ⟨vs, k1, k2, k3⟩ := h4; exact rep_dct.mpr ⟨p, vs, rfl, Rd.of (hid_of hp0 k1), k2, k3.same e0⟩
      | obj c xs => exact absurd rfl (hno c xs)
      | non => exact h4.elim
      | bl _ => exact h4.elim
      | int _ => exact h4.elim
      | str _ => exact h4.elim
      | tup _ => exact h4.elim
      | feed => exact h4.elim
    · cases ed
theorem yretn : PS X (.Return none pos) (tStm S sRetN) := psm ps_retN fun D σ H ⟨fd, fl, O0, H0, sf, ρ, O, n, R, sg, hf, hq⟩ => hq (.rt .non) n hf .non H sg.ex (rep_non.mpr rfl)
theorem yif {c : Expr} {a b : List Stmt} {t : En → M Bool} (hc : PT X c (tB S t)) (ha : PSs X a (tStm S f)) (hb : PSs X b (tStm S g)) : PS X (.If c a b pos) (tStm S (sIf t f g)) :=
  psm (ps_if hc ha hb) fun D σ H ⟨fd, fl, O0, H0, sf, ρ, O, n, R, sg, hf, hq⟩ => ⟨fd, fl, O, ρ, n, _, sg.eg, hf, fun k n' H' r ex => by
    have fr := sg.eg.gd.fr ex
    cases k with
    | true => exact ⟨fd, fl, O0, H0, sf, ρ, O, n', R, sg.to ex, r, fun c n'' h => (hq c n'' h).fr fr⟩
    | false => exact ⟨fd, fl, O0, H0, sf, ρ, O, n', R, sg.to ex, r, fun c n'' h => (hq c n'' h).fr fr⟩⟩
end
end Pu
set_option Elab.async false
set_option linter.all false
set_option maxRecDepth 100000
set_option maxHeartbeats 4000000
namespace Pu
open PySem PySem.Spec PyProof.Rows L2 Fd Tx
/-! ### several names at once, lists of one's own among them -/
section
variable {sf : Option Addr} {G : Gr} {O0 O O' : Addr → Bool} {H0 H H' : Hp} {ρ : En} {n m : Nat} {σ : L2.St} {D : Ends}
/-- more is off limits, the heap is grown -/
theorem SG.grow (s : SG G O0 H0 sf ρ O n σ H) (e : Ex G m H H') (eg : EG G O' ρ m σ H') (h1 : ∀ a, O a = true → O' a = true) (h2 : ∀ a, O' a = true → O a = false → H a = none) : SG G O0 H0 sf ρ O' m σ H' := by
  refine ⟨s.gd0, s.ex.trans e, eg, fun a ha => h1 a (s.sub a ha), fun a ha h0 => ?_, s.dis, s.of0, s.self⟩
  cases q : O a with
  | true => exact s.own a q h0
  | false =>
    have hn := h2 a ha q
    cases q2 : H0 a with
    | none => rfl
    | some o =>
      have hf : a ≠ G.fd := by
        rintro rfl
        rw [s.eg.gd.ofd] at q; cases q
      rw [s.ex.keep a o hf q2] at hn; cases hn
theorem SG.putO (s : SG G O0 H0 sf ρ O n σ H) (i : Nat) {d : Pu.D} {p : Addr} (ho : noOb ρ[i]? = true) (hO : O p = true) (h0 : O0 p = false) (hf : p ≠ G.fd) (r : RepO G O H p d) (hne : ∀ (j : Nat) (d' : Pu.D), ρ[j]? = some (.ow d') → σ[j]? ≠ some (some (.ref p))) :
    SG G O0 H0 sf (ρ.set i (.ow d)) O n (σ.set i (some (.ref p))) H := by
  have key : ∀ (j : Nat) (e' : Pu.D), (ρ.set i (.ow d))[j]? = some (.ow e') → (j = i ∧ e' = d ∧ i < ρ.length) ∨ (j ≠ i ∧ ρ[j]? = some (.ow e') ∧ (σ.set i (some (.ref p)))[j]? = σ[j]?) := fun j e' h => by
    by_cases hj : i = j
    · subst hj
      rw [List.getElem?_set_self'] at h
      cases q : ρ[i]? with
      | none => rw [q] at h; cases h
      | some z =>
        rw [q] at h
        cases h
        exact .inl ⟨rfl, rfl, (List.getElem?_eq_some_iff.mp q).1⟩
    · rw [List.getElem?_set_ne hj] at h
      exact .inr ⟨Ne.symm hj, h, by rw [List.getElem?_set_ne hj]⟩
  have hself : i < ρ.length → (σ.set i (some (.ref p)))[i]? = some (some (V.ref p)) := fun hl => List.getElem?_set_self (by rw [← s.eg.len]; exact hl)
  refine ⟨s.gd0, s.ex, ⟨s.eg.gd, by rw [List.length_set, List.length_set]; exact s.eg.len, fun j d' h => ?_, fun j d' h => ?_⟩, s.sub, s.own, fun a b d' e' q h1 h2 h3 h4 => ?_, fun a d' q h1 h2 => ?_, fun x hx => ?_⟩
  · by_cases hj : i = j
    · subst hj
      rw [List.getElem?_set_self'] at h
      cases q : ρ[i]? with
      | none => rw [q] at h; cases h
      | some z => rw [q] at h; cases h
    · rw [List.getElem?_set_ne hj] at h
      rw [List.getElem?_set_ne hj]
      exact s.eg.fz j d' h
  · rcases key j d' h with ⟨rfl, rfl, hl⟩ | ⟨hj, h', h''⟩
    · exact ⟨p, hself hl, hO, hf, r⟩
    · rw [h'']
      exact s.eg.ow j d' h'
  · rcases key a d' h1 with ⟨rfl, _, hl⟩ | ⟨ha, h1', h1''⟩
    · rcases key b e' h2 with ⟨rfl, _, _⟩ | ⟨hb, h2', h2''⟩
      · rfl
      · rw [hself hl] at h3
        cases h3
        rw [h2''] at h4
        exact absurd h4 (hne b e' h2')
    · rcases key b e' h2 with ⟨rfl, _, hl⟩ | ⟨hb, h2', h2''⟩
      · rw [hself hl] at h4
        cases h4
        rw [h1''] at h3
        exact absurd h3 (hne a d' h1')
      · exact s.dis a b d' e' q h1' h2' (by rw [← h1'']; exact h3) (by rw [← h2'']; exact h4)
  · rcases key a d' h1 with ⟨rfl, _, hl⟩ | ⟨ha, h1', h1''⟩
    · rw [hself hl] at h2
      cases h2
      exact h0
    · exact s.of0 a d' q h1' (by rw [← h1'']; exact h2)
  · obtain ⟨⟨c, xs, h1⟩, h2⟩ := s.self x hx
    have hi0 : i ≠ 0 := by
      rintro rfl
      rw [h1] at ho; cases ho
    exact ⟨⟨c, xs, by rw [List.getElem?_set_ne hi0]; exact h1⟩, by rw [List.getElem?_set_ne hi0]; exact h2⟩
end
/-- slots' contents and values; owned ones are among ps -/
inductive MSl (G : Gr) (O : Addr → Bool) (H : Hp) : List Sl → List V → List Addr → Prop where
  | nil : MSl G O H [] [] []
  | fz {d : D} {v : V} {sl : List Sl} {vs : List V} {ps : List Addr} (r : Rep G (hid O H) d v) (t : MSl G O H sl vs ps) : MSl G O H (.fz d :: sl) (v :: vs) ps
  | ow {d : D} {p : Addr} {sl : List Sl} {vs : List V} {ps : List Addr} (r : RepO G O H p d) (hp : p ∉ ps) (t : MSl G O H sl vs ps) : MSl G O H (.ow d :: sl) (.ref p :: vs) (p :: ps)
def setAll : List Nat → List Sl → En → Option En
  | [], [], ρ => some ρ
  | i :: is, s :: sl, ρ => if noOb ρ[i]? = true then setAll is sl (ρ.set i s) else none
  | _, _, _ => none
def setSt : List Nat → List V → L2.St → L2.St
  | i :: is, v :: vs, σ => setSt is vs (σ.set i (some v))
  | _, _, σ => σ
theorem SG.putAll {sf : Option Addr} {G : Gr} {O0 O : Addr → Bool} {H0 H : Hp} {n : Nat} : ∀ {is : List Nat} {sl : List Sl} {vs : List V} {ps : List Addr} {ρ ρ' : En} {σ : L2.St}, SG G O0 H0 sf ρ O n σ H → MSl G O H sl vs ps → (∀ p ∈ ps, O p = true ∧ O0 p = false ∧ p ≠ G.fd ∧ ∀ (j : Nat) (d' : D), ρ[j]? = some (.ow d') → σ[j]? ≠ some (some (.ref p))) →
    setAll is sl ρ = some ρ' → SG G O0 H0 sf ρ' O n (setSt is vs σ) H
  | [], [], vs, ps, ρ, ρ', σ, s, m, hp, e => by cases e; exact s
  | [], _ :: _, vs, ps, ρ, ρ', σ, s, m, hp, e => by cases e
  | _ :: _, [], vs, ps, ρ, ρ', σ, s, m, hp, e => by cases e
  | i :: is, x :: sl, vs, ps, ρ, ρ', σ, s, m, hp, e => by
    have e' : (if noOb ρ[i]? = true then setAll is sl (ρ.set i x) else none) = some ρ' := e
    by_cases ho : noOb ρ[i]? = true
    · rw [if_pos ho] at e'
      cases m with
      | fz r t =>
        rename_i d v vs'
        show SG G O0 H0 sf ρ' O n (setSt is vs' (σ.set i (some v))) H
        refine SG.putAll (s.setF i ho r) t (fun p hpp => ?_) e'
        obtain ⟨h1, h2, h3, h4⟩ := hp p hpp
        refine ⟨h1, h2, h3, fun j d' hj => ?_⟩
        obtain ⟨k1, k2⟩ := (tgt_set (ρ := ρ) (σ := σ) (i := i) (d := d) (v := v) ho).2.2.1 j d' hj
        rw [k2]
        exact h4 j d' k1
      | ow r hn t =>
        rename_i d p vs' ps'
        obtain ⟨h1, h2, h3, h4⟩ := hp p List.mem_cons_self
        show SG G O0 H0 sf ρ' O n (setSt is vs' (σ.set i (some (.ref p)))) H
        refine SG.putAll (s.putO i ho h1 h2 h3 r h4) t (fun q hq => ?_) e'
        obtain ⟨k1, k2, k3, k4⟩ := hp q (List.mem_cons_of_mem _ hq)
        refine ⟨k1, k2, k3, fun j d' hj => ?_⟩
        by_cases hij : i = j
        · subst hij
          rw [List.getElem?_set_self'] at hj
          cases z : ρ[i]? with
          | none => rw [z] at hj; cases hj
          | some w =>
            have hl : i < σ.length := by rw [← s.eg.len]; exact (List.getElem?_eq_some_iff.mp z).1
            rw [List.getElem?_set_self hl]
            intro q2
            cases q2
            exact hn hq
        · rw [List.getElem?_set_ne hij] at hj ⊢
          exact k4 j d' hj
    · rw [if_neg ho] at e'; cases e'
/-- arguments, some of them new and one's own -/
def tAm (S : Sa) (k : Nat) (f : En → M (List Sl)) : TA := fun σ H Q => ∃ fd fl O ρ n R, EG (S.gr fd fl) O ρ n σ H ∧ f ρ n R NoX ∧ ∀ sl n' vs H' O' ps, R sl n' → sl.length = k → Ex (S.gr fd fl) n' H H' → EG (S.gr fd fl) O' ρ n' σ H' → (∀ a, O a = true → O' a = true) → (∀ a, O' a = true → O a = false → H a = none) →
  Fr O H O' H' → MSl (S.gr fd fl) O' H' sl vs ps → (∀ p ∈ ps, O' p = true ∧ H p = none ∧ p ≠ fd) → Q vs H'
def mNil : En → M (List Sl) := fun _ => ret []
def mFz (a : EX) (r : En → M (List Sl)) : En → M (List Sl) := fun ρ => bnd (a ρ) fun x => bnd (r ρ) fun xs => ret (.fz x :: xs)
def mOw (a : EX) (r : En → M (List Sl)) : En → M (List Sl) := fun ρ => bnd (a ρ) fun x => bnd (r ρ) fun xs => ret (.ow x :: xs)
section
variable {X : Cx} {S : Sa} {e : Expr} {es : List Expr} {fa : EX} {fr : En → M (List Sl)} {k : Nat}
theorem ymnil : PA X [] (tAm S 0 mNil) := pam pa_nil fun σ H Q ⟨fd, fl, O, ρ, n, R, eg, hf, hq⟩ => hq [] n [] H O [] hf rfl eg.gd.rfl eg (fun _ h => h) (fun a h1 h2 => by rw [h1] at h2; cases h2) .refl .nil (fun _ h => by cases h)
theorem MSl.keep {G : Gr} {O O' : Addr → Bool} {H H' : Hp} (f : Fr O H O' H') {sl : List Sl} {vs : List V} {ps : List Addr} (m : MSl G O H sl vs ps) (hk : ∀ p ∈ ps, ∀ o, H p = some o → H' p = some o) : MSl G O' H' sl vs ps := by
  induction m with
  | nil => exact .nil
  | fz r t ih => exact .fz (r.same f.hid) (ih hk)
  | ow r hp t ih => exact .ow (r.fr f (hk _ List.mem_cons_self)) hp (ih fun p hp => hk p (List.mem_cons_of_mem _ hp))
theorem ymfz (ha : PE X e (tS S fa)) (hr : PA X es (tAm S k fr)) (hs : starEach (e :: es) X.env = (false, eval e X.env) :: starEach es X.env := by rfl) : PA X (e :: es) (tAm S (k + 1) (mFz fa fr)) :=
  pam (pa_cons ha hr hs) fun σ H Q ⟨fd, fl, O, ρ, n, R, eg, hf, hq⟩ => ⟨fd, fl, O, ρ, n, _, eg, hf, fun d1 n1 v1 H1 r1 ex1 rp1 => ⟨fd, fl, O, ρ, n1, _, eg.ex ex1, r1, fun sl n2 vs H2 O2 ps r2 hl ex2 eg2 h1 h2 f m hp =>
    hq _ n2 _ H2 O2 ps r2 (by rw [List.length_cons, hl]) (ex1.trans ex2) eg2 h1 (fun a ha h0 => eg.gd.old ex1 (h2 a ha h0)) ((eg.gd.fr ex1).trans f) (.fz (rp1.same f.hid) m) (fun p hpp => ⟨(hp p hpp).1, eg.gd.old ex1 (hp p hpp).2.1, (hp p hpp).2.2⟩)⟩⟩
theorem ymow (ha : PE X e (tF S fa)) (hr : PA X es (tAm S k fr)) (hs : starEach (e :: es) X.env = (false, eval e X.env) :: starEach es X.env := by rfl) : PA X (e :: es) (tAm S (k + 1) (mOw fa fr)) :=
  pam (pa_cons ha hr hs) fun σ H Q ⟨fd, fl, O, ρ, n, R, eg, hf, hq⟩ => ⟨fd, fl, O, ρ, n, _, eg, hf, fun d1 n1 p H1 r1 ex1 hp1 hf1 ro1 hno => by
    have hD' : H1 p ≠ none := by
      cases d1 with
      | lst xs => obtain ⟨vs, h, _⟩ := ro1; rw [h]; exact fun z => nomatch z
      | dic ks xs => obtain ⟨vs, h, _⟩ := ro1; rw [h]; exact fun z => nomatch z
      | dct ks xs => obtain ⟨vs, h, _⟩ := ro1; rw [h]; exact fun z => nomatch z
      | obj c xs => obtain ⟨dx, vs, h, _⟩ := ro1; rw [h]; exact fun z => nomatch z
      | _ => exact ro1.elim
    refine ⟨fd, fl, offO O p, ρ, n1, _, eg.off ex1 hp1 hD', r1, fun sl n2 vs H2 O2 ps r2 hl ex2 eg2 h1 h2 f m hp => ?_⟩
    have hO2 : O2 p = true := h1 p offO_self
    have hnp : p ∉ ps := fun z => hD' (hp p z).2.1
    refine hq _ n2 _ H2 O2 (p :: ps) r2 (by rw [List.length_cons, hl]) (ex1.trans ex2) eg2 (fun a ha => h1 a (offO_le ha)) (fun a ha h0 => ?_) ((eg.gd.frOff ex1 hp1).trans f) (.ow (ro1.fr f fun o => ex2.keep p o hf1) hnp m) (fun q hq' => ?_)
    · by_cases ap : a = p
      · rw [ap]; exact hp1
      · exact eg.gd.old ex1 (h2 a ha (by rw [offO_ne ap]; exact h0))
    · rcases List.mem_cons.mp hq' with rfl | hq'
      · exact ⟨hO2, hp1, hf1⟩
      · exact ⟨(hp q hq').1, eg.gd.old ex1 (hp q hq').2.1, (hp q hq').2.2⟩⟩
def sPar (is : List Nat) (f : En → M (List Sl)) : SX := fun ρ => bnd (f ρ) fun sl => bnd (lft (setAll is sl ρ)) fun ρ' => ret (.nx ρ')
theorem par_of {is : List Nat} : ∀ D σ H, tStm S (sPar is fr) D σ H → tAm S k fr σ H (fun vs H1 => vs.length = k ∧ (D.nx (setSt is vs σ) H1 ∧ ∀ T, H1 T = none → D.nx (setSt is vs σ) (upd H1 T (.tup vs)))) := fun D σ H ⟨fd, fl, O0, H0, sf, ρ, O, n, R, sg, hf, hq⟩ => ⟨fd, fl, O, ρ, n, _, sg.eg, hf, fun sl n' vs H' O' ps r hl ex eg' h1 h2 f m hp => by
    obtain ⟨ρ', eρ, hr⟩ := lft_iff r
    have hvl : vs.length = k := by
      rw [← hl]
      clear hl r eρ hr hp f h1 h2
      induction m with
      | nil => rfl
      | fz _ _ ih => simp only [List.length_cons, ih]
      | ow _ _ _ ih => simp only [List.length_cons, ih]
    have sg' := sg.grow ex eg' h1 h2
    have hps : ∀ p ∈ ps, O' p = true ∧ O0 p = false ∧ p ≠ (S.gr fd fl).fd ∧ ∀ (j : Nat) (d' : Pu.D), ρ[j]? = some (.ow d') → σ[j]? ≠ some (some (.ref p)) := fun p hpp => by
      obtain ⟨k1, k2, k3⟩ := hp p hpp
      have h0n : H0 p = none := by
        cases q : H0 p with
        | none => rfl
        | some o => rw [sg.ex.keep p o k3 q] at k2; cases k2
      obtain ⟨n0, g0⟩ := sg.gd0
      refine ⟨k1, g0.off h0n, k3, fun j d' hj z => ?_⟩
      obtain ⟨q, q1, q2, q3, q4⟩ := sg.eg.ow j d' hj
      rw [z] at q1; cases q1
      exact sg.eg.gd.alc p q2 k2
    have sgF := sg'.putAll m hps eρ
    refine ⟨hvl, hq _ n' hr O' _ H' sgF f, fun T hT => ?_⟩
    have exT : Ex (S.gr fd fl) n' H' (upd H' T (.tup vs)) := eg'.gd.new hT
    exact hq _ n' hr O' _ _ (sgF.to exT) (f.trans (eg'.gd.fr exT))⟩
theorem ypar {i j : Nat} {x y : Str} {a b : Expr} {px py pt pos : Pos} {kt k2 pt2} (hc : X.calm = true) (hN : X.N.Nodup) (hi : X.N[i]? = some x) (hj : X.N[j]? = some y) (hij : i ≠ j)
    (hx : X.env.scope.names.lookup x = some .local) (hy : X.env.scope.names.lookup y = some .local) (ha : PA X [a, b] (tAm S 2 fr))
    (hw : swappedStores [.Tuple [.Name x px, .Name y py] kt pt] (.Tuple [a, b] k2 pt2) X.env = pure (some [x, y]))
    (hs : swapsWithSole [.Tuple [.Name x px, .Name y py] kt pt] (.Tuple [a, b] k2 pt2) pos.line X.env = pure false := by rfl) :
    PS X (.Assign [.Tuple [.Name x px, .Name y py] kt pt] (.Tuple [a, b] k2 pt2) pos) (tStm S (sPar [i, j] fr)) :=
  psm (ps_par hc hN hi hj hij hx hy ha hw hs) fun D σ H h => by
    obtain ⟨fd, fl, O, ρ, n, R, eg, hf, hq⟩ := par_of (k := 2) D σ H h
    refine ⟨fd, fl, O, ρ, n, R, eg, hf, fun sl n' vs H' O' ps r hl ex eg' h1 h2 f m hp => ?_⟩
    obtain ⟨hvl, q, _⟩ := hq sl n' vs H' O' ps r hl ex eg' h1 h2 f m hp
    match vs, hvl, q with
    | [v, w], _, q => exact ⟨v, w, rfl, q⟩
theorem ypar3 {i j l : Nat} {x y z : Str} {a b c : Expr} {px py pz pt pos : Pos} {kt k2 pt2} (hc : X.calm = true) (hN : X.N.Nodup) (hi : X.N[i]? = some x) (hj : X.N[j]? = some y) (hl : X.N[l]? = some z) (hij : i ≠ j) (hil : i ≠ l) (hjl : j ≠ l)
    (hx : X.env.scope.names.lookup x = some .local) (hy : X.env.scope.names.lookup y = some .local) (hz : X.env.scope.names.lookup z = some .local) (ha : PA X [a, b, c] (tAm S 3 fr))
    (hw : swappedStores [.Tuple [.Name x px, .Name y py, .Name z pz] kt pt] (.Tuple [a, b, c] k2 pt2) X.env = pure (some [x, y, z]))
    (hs : swapsWithSole [.Tuple [.Name x px, .Name y py, .Name z pz] kt pt] (.Tuple [a, b, c] k2 pt2) pos.line X.env = pure false := by rfl) :
    PS X (.Assign [.Tuple [.Name x px, .Name y py, .Name z pz] kt pt] (.Tuple [a, b, c] k2 pt2) pos) (tStm S (sPar [i, j, l] fr)) :=
  psm (ps_par3 hc hN hi hj hl hij hil hjl hx hy hz ha hw hs) fun D σ H h => by
    obtain ⟨fd, fl, O, ρ, n, R, eg, hf, hq⟩ := par_of (k := 3) D σ H h
    refine ⟨fd, fl, O, ρ, n, R, eg, hf, fun sl n' vs H' O' ps r hl ex eg' h1 h2 f m hp => ?_⟩
    obtain ⟨hvl, q, _⟩ := hq sl n' vs H' O' ps r hl ex eg' h1 h2 f m hp
    match vs, hvl, q with
    | [v, w, u], _, q => exact ⟨v, w, u, rfl, q⟩
/-- by a tuple that is laid -/
def gNs : List Nat → TGs
  | [] => L2.gNil
  | i :: is => L2.gCons (gName i) (gNs is)
theorem gNs_set : ∀ (is : List Nat) (vs : List V) (σ : L2.St) (H : Hp) (Q : L2.St → Hp → Prop), vs.length = is.length → Q (setSt is vs σ) H → gNs is vs σ H Q
  | [], [], σ, H, Q, _, q => ⟨rfl, q⟩
  | [], _ :: _, σ, H, Q, h, q => by cases h
  | i :: is, [], σ, H, Q, h, q => by cases h
  | i :: is, v :: vs, σ, H, Q, h, q => ⟨v, vs, rfl, gNs_set is vs _ H Q (Nat.succ.inj h) q⟩
theorem yparT {is : List Nat} {ns : List Expr} {kt k2 : Nat} {pt pt2 pos : Pos} (hK : X.K = S.K) (hc : X.calm = true) (hn : PGs X ns (gNs is)) (ha : PA X es (tAm S is.length fr))
    (hl : (assignEach ns X.env).length = is.length := by rfl) (hst : (assignEach ns X.env).findIdx? (·.1) = none := by rfl)
    (hs : swapsWithSole [.Tuple ns kt pt] (.Tuple es k2 pt2) pos.line X.env = pure false := by rfl) (hw : swappedStores [.Tuple ns kt pt] (.Tuple es k2 pt2) X.env = pure none := by rfl)
    (h1 : (assignEach [.Tuple ns kt pt] X.env).map (·.2) = [assign (.Tuple ns kt pt) X.env] := by rfl) (hb : is.length ≤ bigN := by decide) : PS X (.Assign [.Tuple ns kt pt] (.Tuple es k2 pt2) pos) (tStm S (sPar is fr)) :=
  psm (ps_asg (pe_tup ha) (pg_tK (K := S.K) hK hc hn hl hst) hs hw h1) fun D σ H h => by
    obtain ⟨fd, fl, O, ρ, n, R, eg, hf, hq⟩ := par_of (k := is.length) D σ H h
    refine ⟨fd, fl, O, ρ, n, R, eg, hf, fun sl n' vs H' O' ps r hl ex eg' h1 h2 f m hp => ?_⟩
    obtain ⟨hvl, _, q⟩ := hq sl n' vs H' O' ps r hl ex eg' h1 h2 f m hp
    exact ⟨by rw [hvl]; exact big_le hb, fun T hT => ⟨T, vs, rfl, SqT.of upd_same, hvl, gNs_set is vs σ _ _ hvl (q T hT)⟩⟩
end
end Pu
set_option Elab.async false
set_option linter.all false
set_option maxRecDepth 100000
set_option maxHeartbeats 4000000
namespace Pu
open PySem PySem.Spec PyProof.Rows L2 Fd Tx
/-! ### loops -/
def forW (g : GX) (body : SX) : List D → SX
  | [], ρ => ret (.nx ρ)
  | d :: ds, ρ => bnd (lft (g d ρ)) fun ρ1 => bnd (body ρ1) fun c => match c with
    | .nx ρ2 => forW g body ds ρ2
    | .ct ρ2 => forW g body ds ρ2
    | .bk ρ2 => ret (.nx ρ2)
    | .rt d => ret (.rt d)
def sFor (it : IX) (g : GX) (body : SX) : SX := fun ρ => bnd (it ρ) fun ds => forW g body ds ρ
/-- while: by an invariant and a measure -/
def sWhile (t : En → M Bool) (body : SX) : SX := fun ρ n Q E => ∃ I : Nat → En → Nat → Prop, (∃ m, I m ρ n) ∧ ∀ m ρ n, I m ρ n → t ρ n (fun b n1 => if b = true then body ρ n1 (fun c n2 => match c with
  | .nx ρ2 => ∃ m', m' < m ∧ I m' ρ2 n2
  | .ct ρ2 => ∃ m', m' < m ∧ I m' ρ2 n2
  | .bk ρ2 => Q (.nx ρ2) n2
  | .rt d => Q (.rt d) n2) E else Q (.nx ρ) n1) E
section
variable {X : Cx} {S : Sa} {tg iter : Expr} {body : List Stmt} {fi : IX} {gx : GX} {fb : SX} {vs : List Nat} {pos : Pos}
theorem yfor (hp : PassesOwn (model X.prog X.w) X.A X.env X.xe) (hc : X.calm = true) (hi : PI X tg iter (tIs S fi)) (hg : PG X tg (tG S gx vs)) (hb : PSs X body (tStm S fb))
    (hs : ∀ x, foldedSetIterable iter X.env x = pure x := by intro _; rfl) : PS X (.For tg iter body [] pos) (tStm S (sFor fi gx fb)) :=
  psm (ps_for hp hc hi hg hb hs) fun D σ H ⟨fd, fl, O0, H0, sf, ρ, O, n, R, sg, hf, hq⟩ => ⟨fd, fl, O, ρ, n, _, sg.eg, hf, fun ds n1 J H1 r1 ex1 sz it => by
    have sg1 := sg.to ex1
    have fr1 := sg.eg.gd.fr ex1
    let Pv : Nat → L2.St → Hp → Prop := fun i σ H => ∃ ρ O' n', SG (S.gr fd fl) O0 H0 sf ρ O' n' σ H ∧ Fr O H1 O' H ∧ forW gx fb (ds.drop i) ρ n' R NoX
    refine ⟨fun i m σ H => m = ds.length - i ∧ i ≤ ds.length ∧ Pv i σ H, ⟨ds.length, by simp, Nat.zero_le _, ρ, O, n1, sg1, .refl, r1⟩, ?_⟩
    rintro i m σ' H' ⟨rfl, hi, ρ', O', n', sg', fr', hw⟩
    by_cases hlt : i < ds.length
    · refine .inr ⟨it.go i O' H' hlt fr', Pv (i + 1), fun σ2 H2 p => ⟨ds.length - (i + 1), by omega, rfl, hlt, p⟩, fun x H2 y => ?_⟩
      obtain ⟨ex2, rx⟩ := it.yld i O' n' H' x H2 _ (List.getElem?_eq_getElem hlt) fr' sg'.eg.gd y
      rw [List.drop_eq_getElem_cons hlt] at hw
      obtain ⟨ρ1, eρ, hb⟩ := lft_iff hw
      have fr2 := fr'.trans (sg'.eg.gd.fr ex2)
      refine ⟨fd, fl, O', ρ', n', ds[i], ρ1, (sg'.to ex2).eg, rx, eρ, fun σ3 eg3 tg3 => ?_⟩
      refine ⟨fd, fl, O0, H0, sf, ρ1, O', n', _, (sg'.to ex2).tgt eg3 tg3, hb, fun c n4 hr => ?_⟩
      cases c with
      | nx ρ4 => exact fun O4 σ4 H4 sg4 fr4 => ⟨ρ4, O4, n4, sg4, fr2.trans fr4, hr⟩
      | ct ρ4 => exact fun O4 σ4 H4 sg4 fr4 => ⟨ρ4, O4, n4, sg4, fr2.trans fr4, hr⟩
      | bk ρ4 => exact fun O4 σ4 H4 sg4 fr4 => hq (.nx ρ4) n4 hr O4 σ4 H4 sg4 ((fr1.trans fr2).trans fr4)
      | rt d => exact hq (.rt d) n4 hr
    · have e : i = ds.length := by omega
      subst e
      rw [List.drop_length] at hw
      exact .inl ⟨it.stop O' H' fr', hq (.nx ρ') n' hw O' σ' H' sg' (fr1.trans fr')⟩⟩
theorem ywhile {c : Expr} {t : En → M Bool} (hp : PassesOwn (model X.prog X.w) X.A X.env X.xe) (hc : PT X c (tB S t)) (hb : PSs X body (tStm S fb)) : PS X (.While c body [] pos) (tStm S (sWhile t fb)) :=
  psm (ps_while hp hc hb) fun D σ H ⟨fd, fl, O0, H0, sf, ρ, O, n, R, sg, hf, hq⟩ => by
    obtain ⟨I, ⟨m0, i0⟩, hI⟩ := hf
    refine ⟨fun m σ' H' => ∃ ρ' O' n', SG (S.gr fd fl) O0 H0 sf ρ' O' n' σ' H' ∧ Fr O H O' H' ∧ I m ρ' n', ⟨m0, ρ, O, n, sg, .refl, i0⟩, ?_⟩
    rintro m σ' H' ⟨ρ', O', n', sg', fr', hi⟩
    refine ⟨fd, fl, O', ρ', n', _, sg'.eg, hI m ρ' n' hi, fun b n1 H1 r1 ex1 => ?_⟩
    have fr1 := fr'.trans (sg'.eg.gd.fr ex1)
    cases b with
    | false => exact hq (.nx ρ') n1 r1 O' σ' H1 (sg'.to ex1) fr1
    | true =>
      refine ⟨fun σ2 H2 => ∃ m' ρ2 O2 n2, m' < m ∧ SG (S.gr fd fl) O0 H0 sf ρ2 O2 n2 σ2 H2 ∧ Fr O H O2 H2 ∧ I m' ρ2 n2, fun σ2 H2 ⟨m', ρ2, O2, n2, h1, h2, h3, h4⟩ => ⟨m', h1, ρ2, O2, n2, h2, h3, h4⟩, ?_⟩
      refine ⟨fd, fl, O0, H0, sf, ρ', O', n1, _, sg'.to ex1, r1, fun c n4 hr => ?_⟩
      cases c with
      | nx ρ4 => exact fun O4 σ4 H4 sg4 fr4 => let ⟨m', h1, h2⟩ := hr; ⟨m', ρ4, O4, n4, h1, sg4, fr1.trans fr4, h2⟩
      | ct ρ4 => exact fun O4 σ4 H4 sg4 fr4 => let ⟨m', h1, h2⟩ := hr; ⟨m', ρ4, O4, n4, h1, sg4, fr1.trans fr4, h2⟩
      | bk ρ4 => exact fun O4 σ4 H4 sg4 fr4 => hq (.nx ρ4) n4 hr O4 σ4 H4 sg4 (fr1.trans fr4)
      | rt d => exact hq (.rt d) n4 hr
end
/-! ### changes of one's own -/
def ownL (ρ : En) (i : Nat) : Option (List D) := match ρ[i]? with
  | some (.ow (.lst xs)) => some xs
  | _ => none
theorem ownL_some {ρ : En} {i : Nat} {xs : List D} (h : ownL ρ i = some xs) : ρ[i]? = some (.ow (.lst xs)) := by
  unfold ownL at h
  split at h
  · rename_i e; cases h; exact e
  · cases h
/-- xs.append(e) -/
def sApp (i : Nat) (f : EX) : SX := fun ρ => bnd (lft (ownL ρ i)) fun xs => bnd (f ρ) fun d => chk (decide (xs.length < bigN)) (ret (.nx (ρ.set i (.ow (.lst (xs ++ [d]))))))
/-- xs[j] = e -/
def sPutL (i : Nat) (fi fe : EX) : SX := fun ρ => bnd (fe ρ) fun d => bnd (lft (ownL ρ i)) fun xs => bnd (fi ρ) fun k => bnd (lft (intD k)) fun j => bnd (lft (ixN xs.length j)) fun m => ret (.nx (ρ.set i (.ow (.lst (xs.set m d)))))
/-- x = xs.pop(j), stored to slot k -/
def sFrz (i : Nat) : SX := fun ρ => match ρ[i]? with
  | some (.ow d) => bnd (lft (notObj d)) fun d => ret (.nx (ρ.set i (.fz d)))
  | some (.fz _) => ret (.nx ρ)
  | _ => nay
section
variable {X : Cx} {S : Sa} {e e2 : Expr} {fe fi : EX} {pos cpos apos : Pos} {x : Str} {p : Pos}
theorem yapp {i : Nat} (hv : PE X (.Name x p) (tVar i)) (he : PE X e (tS S fe))
    (hbase : attributeBase (.Name x p) "append" X.env (eval (.Name x p) X.env) = eval (.Name x p) X.env := by rfl)
    (hfew : ((backTo cpos (starEach [e] X.env)).all (fun x => !x.1) && (backToKw cpos (keywordEach [] X.env)).all (fun x => x.1.isSome)
      && decide ([e].length + ([] : List Keyword).length + (if ([] : List Keyword).isEmpty then 0 else 1) < 30)) = true := by rfl)
    (hline : (apos.endLine == cpos.line) = true := by rfl) (hs : starEach [e] X.env = (false, eval e X.env) :: starEach [] X.env := by rfl) (hplain : (backTo cpos (starEach [] X.env)).any (·.1) = false := by rfl)
    (hsw : swapsWith (.Call (.Attribute (.Name x p) "append" apos) [e] [] cpos) none pos.line X.env = pure false := by rfl) :
    PS X (.Expr (.Call (.Attribute (.Name x p) "append" apos) [e] [] cpos) pos) (tStm S (sApp i fe)) :=
  psm (ps_expr (pe_bm PySem.F.plainAttrs_list PySem.F.slot_list_append PySem.F.type_list_append mt_append hv (pa_cons he pa_nil hs) hbase hfew hline hs hplain) hsw) fun D σ H ⟨fd, fl, O0, H0, sf, ρ, O, n, R, sg, hf, hq⟩ => by
    obtain ⟨xs, ex, hf⟩ := lft_iff hf
    have hρ := ownL_some ex
    obtain ⟨a, h1, h2, h3, vs, h4, h5⟩ := sg.eg.ow i _ hρ
    refine ⟨_, h1, .inl ⟨rfl, vs, SqL.of h4⟩, fd, fl, O, ρ, n, _, sg.eg, hf, fun d n' v H' r ex rp => ?_⟩
    obtain ⟨hb, r⟩ := chk_iff r
    have sg' := sg.to ex
    obtain ⟨a', k1, k2, k3, vs', k4, k5⟩ := sg'.eg.ow i _ hρ
    rw [h1] at k1; cases k1
    have hl : xs.length = vs'.length := k5.length
    refine ⟨a, vs', v, rfl, rfl, k4, by rw [← hl]; exact big_lt (of_decide_eq_true hb), ?_⟩
    obtain ⟨sg2, fr2⟩ := sg'.upd (d' := .lst (xs ++ [d])) (o := .lst (vs' ++ [v])) hρ h1 (fun _ _ z => nomatch z) ⟨_, upd_same, by rw [hid_upd k2]; exact k5.snoc rp⟩
    exact hq _ n' r O σ _ sg2 ((sg.eg.gd.fr ex).trans fr2)
theorem yputl {i : Nat} {tp : Pos} (hv : PE X (.Name x p) (tVar i)) (hi : PE X e2 (tW S fi)) (he : PE X e (tS S fe))
    (ha : ∀ v, assign (.Subscript (.Name x p) e2 tp) X.env v = (do
      let ov ← holding [v] (eval (.Name x p) X.env)
      let iv ← holding [v, ov] (eval e2 X.env)
      standAt tp
      holding [v, ov, iv] (setItem ov iv v)
      release [v, ov, iv] []) := by intro _; rfl)
    (hs : swapsWithSole [.Subscript (.Name x p) e2 tp] e pos.line X.env = pure false := by rfl) (hw : swappedStores [.Subscript (.Name x p) e2 tp] e X.env = pure none := by rfl)
    (h1 : (assignEach [.Subscript (.Name x p) e2 tp] X.env).map (·.2) = [assign (.Subscript (.Name x p) e2 tp) X.env] := by rfl) : PS X (.Assign [.Subscript (.Name x p) e2 tp] e pos) (tStm S (sPutL i fi fe)) :=
  psm (ps_asg he (pg_sub hv hi set_list ha) hs hw h1) fun D σ H ⟨fd, fl, O0, H0, sf, ρ, O, n, R, sg, hf, hq⟩ => ⟨fd, fl, O, ρ, n, _, sg.eg, hf, fun d n1 v H1 r1 ex1 rp1 => by
    have sg1 := sg.to ex1
    obtain ⟨xs, exs, r1⟩ := lft_iff r1
    have hρ := ownL_some exs
    obtain ⟨a, k1, _⟩ := sg1.eg.ow i _ hρ
    refine ⟨_, k1, fd, fl, O, ρ, n1, _, sg1.eg, r1, fun dk n2 w H2 r2 ex2 wp2 => ?_⟩
    obtain ⟨j, ej, r4⟩ := lft_iff r2
    obtain ⟨m, em, r5⟩ := lft_iff r4
    have sg2 := sg1.to ex2
    obtain ⟨a', k2, k3, k4, vs, k5, k6⟩ := sg2.eg.ow i _ hρ
    rw [k1] at k2; cases k2
    have := intD_iff ej
    subst this
    refine ⟨a, vs, j, m, rfl, wp2.int, k5, by rw [← k6.length]; exact em, ?_⟩
    obtain ⟨sg3, fr3⟩ := sg2.upd (d' := .lst (xs.set m d)) (o := .lst (vs.set m v)) hρ k1 (fun _ _ z => nomatch z) ⟨_, upd_same, by rw [hid_upd k3]; exact k6.set m (rp1.same (sg1.eg.gd.hid ex2))⟩
    exact hq _ n2 r5 O σ _ sg3 (((sg.eg.gd.fr ex1).trans (sg1.eg.gd.fr ex2)).trans fr3)⟩
/-- a list, dict of one's own becomes a datum, ahead of a statement -/
theorem yfrz {i : Nat} {sts : List Stmt} {f : SX} (h : PSs X sts (tStm S f)) : PSs X sts (tStm S (sSeq (sFrz i) f)) :=
  pssm h fun D σ H ⟨fd, fl, O0, H0, sf, ρ, O, n, R, sg, hf, hq⟩ => by
    have hf' : bnd (sFrz i ρ) (fun c => match c with
      | .nx ρ' => f ρ'
      | .rt d => ret (.rt d)
      | .bk ρ' => ret (.bk ρ')
      | .ct ρ' => ret (.ct ρ')) n R NoX := hf
    unfold sFrz at hf'
    split at hf'
    · rename_i d e
      obtain ⟨d2, e2, hf2⟩ := lft_iff hf'
      obtain ⟨rfl, hno⟩ := notObj_some e2
      obtain ⟨O', sg', fr'⟩ := sg.freeze e hno
      exact ⟨fd, fl, O0, H0, sf, _, O', n, R, sg', hf2, fun c n' hr => (hq c n' hr).fr fr'⟩
    · exact ⟨fd, fl, O0, H0, sf, ρ, O, n, R, sg, hf', hq⟩
    · exact hf'.elim
/-! x = e + xs.pop(j): slot k; the list's slot i -/
def sAddPop (op : D → D → Option D) (k i : Nat) (fa fi : EX) : SX := fun ρ => chk (noOb ρ[k]? && decide (k ≠ i)) (bnd (fa ρ) fun a => bnd (lft (ownL ρ i)) fun xs => chk (decide (xs.length < bigN)) (bnd (fi ρ) fun j => bnd (lft (intD j)) fun j => bnd (lft (ixN xs.length j)) fun m => bnd (lft xs[m]?) fun d => bnd (lft (op a d)) fun r => ret (.nx ((ρ.set i (.ow (.lst (xs.eraseIdx m)))).set k (.fz r)))))
theorem pop_run {sf : Option Addr} {G : Gr} {O0 O : Addr → Bool} {H0 H : Hp} {ρ : En} {n : Nat} {σ : L2.St} (sg : SG G O0 H0 sf ρ O n σ H) {i m : Nat} {xs : List D} {j : Int} {d : D} (exs : ownL ρ i = some xs) (em : ixN xs.length j = some m) (ed : xs[m]? = some d) :
    ∃ a vs v, σ[i]? = some (some (.ref a)) ∧ H a = some (.lst vs) ∧ vs.length = xs.length ∧ -(2 ^ 63) ≤ j + vs.length ∧ seqIndex? j vs.length = some m ∧ vs[m]? = some v ∧ Rep G (hid O (upd H a (.lst (vs.eraseIdx m)))) d v ∧ SG G O0 H0 sf (ρ.set i (.ow (.lst (xs.eraseIdx m)))) O n σ (upd H a (.lst (vs.eraseIdx m))) ∧ Fr O H O (upd H a (.lst (vs.eraseIdx m))) := by
  have hρ := ownL_some exs
  obtain ⟨a, k1, k2, k3, vs, k4, k5⟩ := sg.eg.ow i _ hρ
  obtain ⟨v, hv, rv⟩ := k5.get ed
  obtain ⟨sg3, fr3⟩ := sg.upd (d' := .lst (xs.eraseIdx m)) (o := .lst (vs.eraseIdx m)) hρ k1 (fun _ _ z => nomatch z) ⟨_, upd_same, by rw [hid_upd k2]; exact k5.eraseIdx m⟩
  obtain ⟨s1, s2, s3, s4⟩ := ixN_seq em
  exact ⟨a, vs, v, k1, k4, k5.length.symm, by rw [← k5.length]; omega, by rw [← k5.length]; exact s1, hv, by rw [hid_upd k2]; exact rv, sg3, fr3⟩
theorem yaddpop {k i : Nat} {o : Operator} {op : D → D → Option D} {y : Str} {py : Pos} {a : Expr} {fa : EX} (hN : X.N.Nodup) (hk : X.N[k]? = some y) (hy : Loc X.env.scope y) (ho : OpR X (binaryOp o) (rD2 S op)) (ha : PE X a (tS S fa)) (hv : PE X (.Name x p) (tVar i)) (hi : PE X e (tW S fi))
    (hbase : attributeBase (.Name x p) "pop" X.env (eval (.Name x p) X.env) = eval (.Name x p) X.env := by rfl)
    (hfew : ((backTo cpos (starEach [e] X.env)).all (fun x => !x.1) && (backToKw cpos (keywordEach [] X.env)).all (fun x => x.1.isSome)
      && decide ([e].length + ([] : List Keyword).length + (if ([] : List Keyword).isEmpty then 0 else 1) < 30)) = true := by rfl)
    (hline : (apos.endLine == cpos.line) = true := by rfl) (hs : starEach [e] X.env = (false, eval e X.env) :: starEach [] X.env := by rfl) (hplain : (backTo cpos (starEach [] X.env)).any (·.1) = false := by rfl) {bpos : Pos}
    (hsw : swapsWith (.BinOp a o (.Call (.Attribute (.Name x p) "pop" apos) [e] [] cpos) bpos) (some (.Name y py)) pos.line X.env = pure false := by rfl) (hfn : X.fn y = true ∨ X.env.scope.names.lookup y = some .local := by first | exact .inl rfl | exact .inr rfl | assumption) :
    PS X (.Assign [.Name y py] (.BinOp a o (.Call (.Attribute (.Name x p) "pop" apos) [e] [] cpos) bpos) pos) (tStm S (sAddPop op k i fa fi)) :=
  psm (ps_set hN hk hy (pe_op ho ha (pe_bm PySem.F.plainAttrs_list PySem.F.slot_list_pop PySem.F.type_list_pop mt_popAt hv (pa_cons hi pa_nil hs) hbase hfew hline hs hplain)) hsw hfn) fun D σ H ⟨fd, fl, O0, H0, sf, ρ, O, n, R, sg, hf, hq⟩ => by
    obtain ⟨hb, hf⟩ := chk_iff hf
    rw [Bool.and_eq_true] at hb
    have hki : k ≠ i := of_decide_eq_true hb.2
    refine ⟨fd, fl, O, ρ, n, _, sg.eg, hf, fun da n1 va H1 r1 ex1 rp1 => ?_⟩
    obtain ⟨xs, exs, r2⟩ := lft_iff r1
    obtain ⟨hbig, r2⟩ := chk_iff r2
    have hbig := of_decide_eq_true hbig
    have hbn : bigN = 10000000 := rfl
    have hρ := ownL_some exs
    have sg1 := sg.to ex1
    obtain ⟨a1, k1, k2, k3, vs1, k4, k5⟩ := sg1.eg.ow i _ hρ
    refine ⟨_, k1, .inl ⟨rfl, vs1, SqL.of k4⟩, fd, fl, O, ρ, n1, _, sg1.eg, r2, fun dj n2 vj H2 r3 ex2 wp => ?_⟩
    obtain ⟨j, ej, r4⟩ := lft_iff r3
    obtain ⟨m, em, r5⟩ := lft_iff r4
    obtain ⟨d, ed, r6⟩ := lft_iff r5
    obtain ⟨r, er, r7⟩ := lft_iff r6
    have := intD_iff ej
    subst this
    have sg2 := sg1.to ex2
    obtain ⟨a', vs, v, q1, q2, q3, q4, q5, q6, q7, sg3, fr3⟩ := pop_run sg2 exs em ed
    rw [k1] at q1; cases q1
    obtain ⟨s1, s2, s3, s4⟩ := ixN_seq em
    refine ⟨a1, vs, j, m, v, rfl, by rw [wp.int], q2, ?_, ?_, q5, q6, ?_⟩
    · omega
    · omega
    · have g3 := sg3.eg.gd
      refine ⟨fd, fl, O, n2, da, d, r, g3, .inl ((rp1.same (sg1.eg.gd.hid ex2)).same fr3.hid), .inl q7, er, fun z H4 ex4 rz => ?_⟩
      have sg4 := sg3.to ex4
      have ho : noOb (ρ.set i (.ow (.lst (xs.eraseIdx m))))[k]? = true := by
        rw [List.getElem?_set_ne (Ne.symm hki)]
        exact hb.1
      exact hq _ n2 r7 O _ H4 (sg4.setF k ho rz) ((((sg.eg.gd.fr ex1).trans (sg1.eg.gd.fr ex2)).trans fr3).trans (g3.fr ex4))
end
end Pu
set_option Elab.async false
set_option linter.all false
set_option maxRecDepth 100000
set_option maxHeartbeats 4000000
namespace Pu
open PySem PySem.Spec PyProof.Rows L2 Fd Tx
/-! ### fields of the new object -/
theorem putF_new : ∀ {ns : List Str} {vs : List V} {k : Nat} {f : Str} {v : V}, ns.Nodup → ns[k]? = some f → vs.length = k → putF f v (ns.zip vs) = ns.zip (vs ++ [v])
  | [], vs, k, f, v, _, e, _ => by simp at e
  | a :: ns, [], 0, f, v, _, e, _ => by
    simp at e; subst e
    simp [putF]
  | a :: ns, [], k + 1, f, v, _, _, h => by cases h
  | a :: ns, w :: vs, 0, f, v, _, _, h => by cases h
  | a :: ns, w :: vs, k + 1, f, v, hd, e, h => by
    have hd' := List.nodup_cons.mp hd
    have e' : ns[k]? = some f := by simpa using e
    have hne : ¬ a = f := by
      rintro rfl
      exact hd'.1 (List.mem_of_getElem? e')
    show putF f v ((a, w) :: ns.zip vs) = (a, w) :: ns.zip (vs ++ [v])
    unfold putF
    rw [if_neg hne, putF_new hd'.2 e' (Nat.succ.inj h)]
def ownOb (ρ : En) (i : Nat) : Option (Nat × List D) := match ρ[i]? with
  | some (Sl.ow (.obj c xs)) => some (c, xs)
  | _ => none
theorem ownOb_some {ρ : En} {i : Nat} {cx : Nat × List D} (h : ownOb ρ i = some cx) : ρ[i]? = some (.ow (.obj cx.1 cx.2)) := by
  unfold ownOb at h
  split at h
  · rename_i e; cases h; exact e
  · cases h
def sFldN (i c k : Nat) (fe : EX) : SX := fun ρ => bnd (fe ρ) fun d => bnd (lft (ownOb ρ i)) fun cx => chk (decide (cx.1 = c ∧ cx.2.length = k)) (ret (.nx (ρ.set i (.ow (.obj cx.1 (cx.2 ++ [d]))))))
section
variable {X : Cx} {S : Sa} {e : Expr} {fe : EX} {pos : Pos} {x : Str} {p : Pos}
theorem yfldn {i c k : Nat} {f : Str} {pos' : Pos} (hK : X.K = S.K) (hc : ClsOk S c) (hk : (S.nms c)[k]? = some f) (hv : PE X (.Name x p) (tVar i)) (he : PE X e (tS S fe)) (hs : swapsWith e (some (.Attribute (.Name x p) f pos')) pos.line X.env = pure false := by rfl) :
    PS X (.Assign [.Attribute (.Name x p) f pos'] e pos) (tStm S (sFldN i c k fe)) :=
  psm (ps_fld hv he hs) fun D σ H ⟨fd, fl, O0, H0, sf, ρ, O, n, R, sg, hf, hq⟩ => ⟨fd, fl, O, ρ, n, _, sg.eg, hf, fun d n1 v H1 r1 ex1 rp1 => by
    have sg1 := sg.to ex1
    obtain ⟨⟨c', xs⟩, ecx, r1⟩ := lft_iff r1
    · have hρ := ownOb_some ecx
      obtain ⟨hb, r2⟩ := chk_iff r1
      obtain ⟨rfl, hl⟩ := of_decide_eq_true hb
      obtain ⟨a, k1, k2, k3, dx, vs, k4, k5, k6⟩ := sg1.eg.ow i _ hρ
      have hkl : k < (S.nms c').length := (List.getElem?_eq_some_iff.mp hk).1
      have hvl : vs.length = k := by rw [← k6.length]; exact hl
      have few := hc.few
      refine ⟨_, k1, a, S.cls c', dx, _, rfl, k4, by rw [hK]; exact hc.ins.cl, by rw [hK]; exact hc.no f (List.mem_of_getElem? hk), ?_, ?_⟩
      · rw [List.length_zip]
        have : (S.nms c').length < 1000 := few
        show min (S.nms c').length vs.length < 1000
        omega
      · have e1 : putF f v ((S.nms c').zip vs) = (S.nms c').zip (vs ++ [v]) := putF_new hc.nd hk hvl
        show D.nx σ (upd H1 a (.ins (S.cls c') dx (putF f v ((S.nms c').zip vs))))
        rw [e1]
        obtain ⟨sg3, fr3⟩ := sg1.upd (d' := .obj c' (xs ++ [d])) (o := .ins (S.cls c') dx ((S.nms c').zip (vs ++ [v]))) hρ k1 (fun _ _ _ => ⟨_, _, rfl⟩) ⟨dx, vs ++ [v], upd_same, by rw [List.length_append, List.length_singleton, hvl]; exact hkl, by rw [hid_upd k2]; exact k6.snoc rp1⟩
        exact hq _ n1 r2 O σ _ sg3 ((sg.eg.gd.fr ex1).trans fr3)⟩
end
/-! ### defs -/
def startE (k : Nat) (ds : List D) : En := ds.map .fz ++ List.replicate (k - ds.length) .no
def fnF (k : Nat) (body : SX) : FX := fun ds => bnd (body (startE k ds)) fun c => match c with
  | .rt d => ret d
  | .nx _ => ret .non
  | _ => nay
/-- an __init__ of class c: m fields, k slots -/
def inF (c m k : Nat) (body : SX) : FX := fun ds => bnd (body (.ow (.obj c []) :: startE k ds)) fun r => match r with
  | .nx ρ => bnd (lft (ownOb ρ 0)) fun cx => chk (decide (cx.1 = c ∧ cx.2.length = m)) (ret (.obj cx.1 cx.2))
  | _ => nay
theorem start_eg {G : Gr} {O : Addr → Bool} {n : Nat} {H : Hp} {ds : List D} {vs : List V} {N : List Str} (g : Gd G O n H) (r : Reps G (hid O H) ds vs) : EG G O (startE N.length ds) n (L2.start N vs) H := by
  have hl := r.length
  refine ⟨g, ?_, fun i d h => ?_, fun i d h => ?_⟩
  · unfold startE L2.start
    simp only [List.length_append, List.length_map, List.length_replicate]
    omega
  · unfold startE at h
    by_cases hi : i < ds.length
    · rw [List.getElem?_append_left (by rw [List.length_map]; exact hi), List.getElem?_map] at h
      cases q : ds[i]? with
      | none => rw [q] at h; cases h
      | some d' =>
        rw [q] at h; cases h
        obtain ⟨v, hv, rv⟩ := r.get q
        refine ⟨v, ?_, rv⟩
        unfold L2.start
        rw [List.getElem?_append_left (by rw [List.length_map, ← hl]; exact hi), List.getElem?_map, hv]
        rfl
    · rw [List.getElem?_append_right (by rw [List.length_map]; omega), List.getElem?_replicate] at h
      split at h <;> cases h
  · unfold startE at h
    by_cases hi : i < ds.length
    · rw [List.getElem?_append_left (by rw [List.length_map]; exact hi), List.getElem?_map] at h
      cases q : ds[i]? with
      | none => rw [q] at h; cases h
      | some d' => rw [q] at h; cases h
    · rw [List.getElem?_append_right (by rw [List.length_map]; omega), List.getElem?_replicate] at h
      split at h <;> cases h
theorem start_no {ds : List D} {k : Nat} {i : Nat} {d : D} (h : (startE k ds)[i]? = some (.ow d)) : False := by
  unfold startE at h
  by_cases hi : i < ds.length
  · rw [List.getElem?_append_left (by rw [List.length_map]; exact hi), List.getElem?_map] at h
    cases q : ds[i]? with
    | none => rw [q] at h; cases h
    | some d' => rw [q] at h; cases h
  · rw [List.getElem?_append_right (by rw [List.length_map]; omega), List.getElem?_replicate] at h
    split at h <;> cases h
section
variable {P : Program} {w : World} {K : PySem.W.Frag} {mg : Str → Option Value} {base : Heap} {S : Sa} {x qual : Str} {st : Stmt} {f : Addr} {fd : FuncData} {N ps : List Str} {k : Nat} {body : SX}
theorem fn_run {vs : List V} {H : Hp} {Q : VK} {E : XK} {m : Nat} (h : spF S m (fnF N.length body) vs H Q E) : tStm S body { nx := fun _ H' => Q .non H', rt := Q } (L2.start N vs) H := by
  obtain ⟨fd, fl, O, n, ds, R, gd, rp, hl, hf, hq⟩ := h
  refine ⟨fd, fl, O, H, none, startE N.length ds, O, n, _, ⟨⟨n, gd⟩, gd.rfl, start_eg gd rp, fun _ h => h, (fun a h1 h2 => by rw [h1] at h2; cases h2), fun i j d e p h1 => (start_no h1).elim, fun i d p h1 => (start_no h1).elim, fun y hy => nomatch hy⟩, hf, fun c n' hr => ?_⟩
  cases c with
  | nx ρ' => exact fun O' σ' H' sg fr => hq .non n' .non H' hr sg.ex (rep_non.mpr rfl)
  | rt d => exact fun v H' ex r => hq d n' v H' hr ex r
  | bk ρ' => exact hr.elim
  | ct ρ' => exact hr.elim
theorem Fun.pu (Fu : L2.Fun K x qual st f fd) (Sc : FnScope N ps (defScope st))
    (hb : ∀ (cdv : Value) (A : Around) (outer : List Env) (s : Shared) (H : Hp) (E : XK), Room k (A.deeper (envOfC qual (defScope st) s.heap.objs.size f cdv)) → PSs (cxOf CX0 P w K mg base N qual (defScope st) f cdv A outer s H E).nox (defBody st) (tStm S body)) :
    FnOk P w K mg base CX0 (k + 1) f fd ps (spF S ps.length (fnF N.length body)) :=
  Fu.ok Sc (fun vs H Q E h => spF_len h) fun cdv A outer s H vs Q E hr h => ⟨_, hb cdv A outer s H E hr, fn_run h⟩
/-- with defaults -/
theorem FunD.pu {dvs : List V} {kws : List (Str × V)} (Fu : FunD K x qual (defArgs st) (defBody st) (defScope st) dvs kws f fd) (Sc : FnScope N ps (defScope st))
    (hb : ∀ (cdv : Value) (A : Around) (outer : List Env) (s : Shared) (H : Hp) (E : XK), Room k (A.deeper (envOfC qual (defScope st) s.heap.objs.size f cdv)) → PSs (cxOf CX0 P w K mg base N qual (defScope st) f cdv A outer s H E).nox (defBody st) (tStm S body)) :
    FnOk P w K mg base CX0 (k + 1) f fd ps (spF S ps.length (fnF N.length body)) :=
  Fu.ok Sc (fun vs H Q E h => spF_len h) fun cdv A outer s H vs Q E hr h => ⟨_, (hb cdv A outer s H E hr).nox, fn_run h⟩
theorem in_run {vs : List V} {H : Hp} {Q : VK} {E : XK} {c m q : Nat} {s0 : Str} {N' : List Str} (hN : N = s0 :: N') (hm : (S.nms c).length = m) (h : spI S c q (inF c m N'.length body) vs H Q E) : tStm S body { nx := fun _ H' => Q .non H', rt := Q } (L2.start N vs) H := by
  obtain ⟨fd, fl, O, n, ds, R, H1, y, dx, ws, gd, rfl, ny, nd, ne, rfl, rp, hl, hf, hq⟩ := h
  subst hN
  have gd0 : Gd (S.gr fd fl) O n (upd H1 dx (.own y)) := gd.ex (gd.new nd)
  have ny0 : (upd H1 dx (.own y)) y = none := by rw [upd_ne (Ne.symm ne)]; exact ny
  have exx := gd0.new (o := .ins (S.cls c) dx []) ny0
  have hys : (upd (upd H1 dx (.own y)) y (.ins (S.cls c) dx [])) y = some (.ins (S.cls c) dx []) := upd_same
  have rp0 : Reps (S.gr fd fl) (hid O (upd H1 dx (.own y))) ds ws := gd.reps (gd.new nd) rp
  have eg0 := (start_eg (N := N') gd0 rp0).off exx ny0 (by rw [hys]; exact fun z => nomatch z)
  have hzip : ((S.gr fd fl).nms c).zip ([] : List V) = [] := List.zip_nil_right
  have hst : L2.start (s0 :: N') (V.ref y :: ws) = some (V.ref y) :: L2.start N' ws := by
    unfold L2.start
    simp only [List.length_cons, List.map_cons, List.cons_append, Nat.add_sub_add_right]
  have no : ∀ (i : Nat) (d : D), (Sl.ow (.obj c []) :: startE N'.length ds)[i]? = some (.ow d) → i = 0 ∧ d = .obj c [] := fun i d h => by
    cases i with
    | zero => simp at h; exact ⟨rfl, h.symm⟩
    | succ i => exact (start_no (by simpa using h)).elim
  rw [hst]
  refine ⟨fd, fl, O, upd H1 dx (.own y), some y, .ow (.obj c []) :: startE N'.length ds, offO O y, n, _, ⟨⟨n, gd0⟩, exx, ⟨eg0.gd, by rw [List.length_cons, List.length_cons, eg0.len], fun i d h => ?_, fun i d h => ?_⟩, fun a ha => offO_le ha, fun a ha h0 => ?_, fun i j d e p h1 h2 _ _ => ?_, fun i d p h1 h2 => ?_, fun z hz => ?_⟩, hf, fun r n' hr => ?_⟩
  · cases i with
    | zero => simp at h
    | succ i =>
      obtain ⟨v, h1, h2⟩ := eg0.fz i d (by simpa using h)
      exact ⟨v, by simpa using h1, h2⟩
  · obtain ⟨rfl, rfl⟩ := no i d h
    exact ⟨y, rfl, offO_self, gd.ne ny, dx, [], by rw [hzip]; exact hys, Nat.zero_le _, .nil⟩
  · by_cases hay : a = y
    · rw [hay]; exact ny0
    · rw [offO_ne hay] at ha; rw [ha] at h0; cases h0
  · rw [(no i d h1).1, (no j e h2).1]
  · obtain ⟨rfl, rfl⟩ := no i d h1
    simp at h2
    rw [← h2]
    exact gd0.off ny0
  · cases hz
    exact ⟨⟨c, [], rfl⟩, rfl⟩
  · cases r with
    | nx ρ' =>
      intro O' σ' H' sg fr
      have hr' : (bnd (lft (ownOb ρ' 0)) fun cx => chk (decide (cx.1 = c ∧ cx.2.length = m)) (ret (D.obj cx.1 cx.2))) n' R NoX := hr
      obtain ⟨⟨c', xs⟩, ecx, hr'⟩ := lft_iff hr'
      · have hρ := ownOb_some ecx
        obtain ⟨hb, hR⟩ := chk_iff hr'
        obtain ⟨rfl, hxm⟩ := of_decide_eq_true hb
        obtain ⟨_, hs⟩ := sg.self y rfl
        obtain ⟨p, k1, k2, k3, dx', vs', k4, k5, k6⟩ := sg.eg.ow 0 _ hρ
        rw [hs] at k1; cases k1
        have ex1 : Ex (S.gr fd fl) n' H1 H' := (gd.new nd).trans sg.ex
        refine hq (.obj c' xs) n' H' hR ex1 (rep_obj.mpr ⟨y, dx', vs', rfl, hid_of (gd0.off ny0) k4, ?_, k6.same (hid_mono sg.sub)⟩)
        rw [← k6.length, hxm]
        exact hm
    | rt d => exact hr.elim
    | bk ρ' => exact hr.elim
    | ct ρ' => exact hr.elim
theorem Fun.pui {c m : Nat} {s0 : Str} {N' ps' : List Str} (Fu : L2.Fun K x qual st f fd) (Sc : FnScope (s0 :: N') (s0 :: ps') (defScope st)) (hm : (S.nms c).length = m)
    (hb : ∀ (cdv : Value) (A : Around) (outer : List Env) (s : Shared) (H : Hp) (E : XK), Room k (A.deeper (envOfC qual (defScope st) s.heap.objs.size f cdv)) → PSs (cxOf CX0 P w K mg base (s0 :: N') qual (defScope st) f cdv A outer s H E).nox (defBody st) (tStm S body)) :
    FnOk P w K mg base CX0 (k + 1) f fd (s0 :: ps') (spI S c ps'.length (inF c m N'.length body)) :=
  Fu.ok Sc (fun vs H Q E h => spI_len h) fun cdv A outer s H vs Q E hr h => ⟨_, hb cdv A outer s H E hr, in_run rfl hm h⟩
theorem FunD.pui {c m : Nat} {s0 : Str} {N' ps' : List Str} {dvs : List V} {kws : List (Str × V)} (Fu : FunD K x qual (defArgs st) (defBody st) (defScope st) dvs kws f fd) (Sc : FnScope (s0 :: N') (s0 :: ps') (defScope st)) (hm : (S.nms c).length = m)
    (hb : ∀ (cdv : Value) (A : Around) (outer : List Env) (s : Shared) (H : Hp) (E : XK), Room k (A.deeper (envOfC qual (defScope st) s.heap.objs.size f cdv)) → PSs (cxOf CX0 P w K mg base (s0 :: N') qual (defScope st) f cdv A outer s H E).nox (defBody st) (tStm S body)) :
    FnOk P w K mg base CX0 (k + 1) f fd (s0 :: ps') (spI S c ps'.length (inF c m N'.length body)) :=
  Fu.ok Sc (fun vs H Q E h => spI_len h) fun cdv A outer s H vs Q E hr h => ⟨_, (hb cdv A outer s H E hr).nox, in_run rfl hm h⟩
end
end Pu
set_option Elab.async false
set_option linter.all false
set_option maxRecDepth 100000
set_option maxHeartbeats 4000000
namespace Pu
open PySem PySem.Spec PyProof.Rows L2 Fd Tx
/-! ### zip -/
def zipD (xs ys : List D) : List D := List.zipWith (fun x y => .tup [x, y]) xs ys
def xZip (st : Bool) (f g : EX) : IX := fun ρ => bnd (f ρ) fun d => bnd (g ρ) fun e => bnd (lft (iterD d)) fun xs => bnd (lft (iterD e)) fun ys => chk (!st || decide (xs.length = ys.length)) (ret (zipD xs ys))
section
variable {X : Cx} {S : Sa} {e e2 : Expr} {fa fb : EX} {pos p : Pos} {G : Gr} {O : Addr → Bool} {H : Hp}
theorem src_of {d : D} {v : V} {ds : List D} (r : Rep G (hid O H) d v) (e : iterD d = some ds) : ∃ (k : Zs.Src) (xs : List V), v = k.v ∧ (∀ O' H', Fr O H O' H' → k.at G.K H' xs) ∧ xs.length = ds.length ∧ (∀ (i : Nat) (x : D), ds[i]? = some x → ∃ u, xs[i]? = some u ∧ ∀ O' H', Fr O H O' H' → Rep G (hid O' H') x u) ∧ (∀ H', SzOk G.K H' → (∀ O', Fr O H O' H' → ds.length ≤ sizeLine)) := by
  cases d with
  | lst xs =>
    cases e
    obtain ⟨a, vs, rfl, h1, h2⟩ := rep_lst.mp r
    refine ⟨.lst a, vs, rfl, fun O' H' f => SqL.of (hid_le _ _ (f.hid _ _ h1)), h2.length.symm, fun i x hx => ?_, fun H' hz O' f => ?_⟩
    · obtain ⟨u, hu, ru⟩ := h2.get hx
      exact ⟨u, hu, fun O' H' f => ru.same f.hid⟩
    · rw [h2.length]
      exact hz a vs (.inl (SqL.of (hid_le _ _ (f.hid _ _ h1))))
  | tup xs =>
    cases e
    obtain ⟨a, vs, rfl, h1, h2⟩ := rep_tup.mp r
    refine ⟨.tup a, vs, rfl, fun O' H' f => f.seq h1.sq, h2.length.symm, fun i x hx => ?_, fun H' hz O' f => ?_⟩
    · obtain ⟨u, hu, ru⟩ := h2.get hx
      exact ⟨u, hu, fun O' H' f => ru.same f.hid⟩
    · rw [h2.length]
      exact hz a vs (.inr (f.seq h1.sq))
  | str s =>
    obtain ⟨hl, rfl⟩ := ite_some e
    refine ⟨.str (tx s), sV s, rep_str.mp r, fun O' H' f => (signsV_tx s).symm, ?_, fun i x hx => ?_, fun H' hz O' f => ?_⟩
    · unfold sV
      rw [List.length_map, List.length_map]
    · rw [List.getElem?_map] at hx
      cases q : s[i]? with
      | none => rw [q] at hx; cases hx
      | some c =>
        rw [q] at hx
        cases hx
        refine ⟨.str (sg c), ?_, fun O' H' f => rep_str.mpr rfl⟩
        unfold sV
        rw [List.getElem?_map, q]
        rfl
    · rw [List.length_map]
      exact big_le hl
  | _ => cases e
theorem iter_zip {b : Bool} {k1 k2 : Zs.Src} {xs ys : List V} {ds es : List D} (a1 : ∀ O' H', Fr O H O' H' → k1.at G.K H' xs) (a2 : ∀ O' H', Fr O H O' H' → k2.at G.K H' ys) (l1 : xs.length = ds.length) (l2 : ys.length = es.length)
    (r1 : ∀ (i : Nat) (x : D), ds[i]? = some x → ∃ u, xs[i]? = some u ∧ ∀ O' H', Fr O H O' H' → Rep G (hid O' H') x u) (r2 : ∀ (i : Nat) (x : D), es[i]? = some x → ∃ u, ys[i]? = some u ∧ ∀ O' H', Fr O H O' H' → Rep G (hid O' H') x u)
    (hb : (!b || decide (ds.length = es.length)) = true) : IterS G (Zs.ItZ b G.K k1 k2) (zipD ds es) O H := by
  have hl : (zipD ds es).length = min ds.length es.length := by unfold zipD; rw [List.length_zipWith]
  refine ⟨fun i O' H' hi f => ?_, fun O' H' f => ?_, fun i O' n' H' x H'' d hd f g y => ?_⟩
  · rw [hl] at hi
    exact ⟨xs, ys, xs[i]'(by omega), ys[i]'(by omega), a1 O' H' f, a2 O' H' f, List.getElem?_eq_getElem _, List.getElem?_eq_getElem _⟩
  · rw [hl]
    refine ⟨xs, ys, a1 O' H' f, a2 O' H' f, by omega, by omega, ?_⟩
    cases b with
    | false => rw [if_neg Bool.false_ne_true]; omega
    | true =>
      have := of_decide_eq_true (show decide (ds.length = es.length) = true from hb)
      rw [if_pos rfl]
      omega
  · obtain ⟨T, u, w, rfl, hT, rfl, h4, h5⟩ := y
    have hu := h4 xs (a1 O' H' f)
    have hw := h5 ys (a2 O' H' f)
    unfold zipD at hd
    rw [List.getElem?_zipWith] at hd
    cases q1 : ds[i]? with
    | none => rw [q1] at hd; cases hd
    | some d1 =>
      cases q2 : es[i]? with
      | none => rw [q1, q2] at hd; cases hd
      | some d2 =>
        rw [q1, q2] at hd
        cases hd
        obtain ⟨u', hu', ru⟩ := r1 i d1 q1
        obtain ⟨w', hw', rw'⟩ := r2 i d2 q2
        rw [hu] at hu'; cases hu'
        rw [hw] at hw'; cases hw'
        exact ⟨g.new hT, new_tup g hT (.cons (ru O' H' f) (.cons (rw' O' H' f) .nil))⟩
theorem zip_of {b : Bool} (hK : X.K = S.K) : ∀ σ H R, tIs S (xZip b fa fb) σ H R → Zs.iZipB b X.K (tCons (fun σ H Q => tS S fa σ H Q) (fun σ H Q => tAs S 1 (xCons fb xNil) σ H fun vs H' => SzOk X.K H' → Q vs H')) σ H R := fun σ H R ⟨fd, fl, O, ρ, n, R0, eg, hf, hq⟩ => ⟨fd, fl, O, ρ, n, _, eg, hf, fun d1 n1 v1 H1 r1 ex1 w1 => ⟨fd, fl, O, ρ, n1, (fun ds n2 => match ds with | [e] => (bnd (lft (iterD d1)) (fun xs => bnd (lft (iterD e)) fun ys => chk (!b || decide (xs.length = ys.length)) (ret (zipD xs ys)))) n2 R0 NoX | _ => False), eg.ex ex1, r1, fun ds n2 vs H2 r2 hlen ex2 w2 => fun hsz => by
    match ds, hlen with
    | [d2], _ =>
      obtain ⟨v2, _, rfl, w3, hnil⟩ := reps_cons.mp w2
      cases reps_nil.mp hnil
      have r2' : bnd (lft (iterD d1)) (fun xs => bnd (lft (iterD d2)) fun ys => chk (!b || decide (xs.length = ys.length)) (ret (zipD xs ys))) n2 R0 NoX := r2
      obtain ⟨xs, e1, r3⟩ := lft_iff r2'
      obtain ⟨ys, e2, r4⟩ := lft_iff r3
      obtain ⟨hb, r5⟩ := chk_iff r4
      have w1' := (eg.gd.ex ex1).rep ex2 w1
      obtain ⟨k1, us, rfl, a1, l1, q1, z1⟩ := src_of w1' e1
      obtain ⟨k2, ws, rfl, a2, l2, q2, z2⟩ := src_of w3 e2
      refine ⟨k1, k2, us, ws, rfl, by rw [hK]; exact a1 O H2 .refl, by rw [hK]; exact a2 O H2 .refl, hq _ n2 _ H2 r5 (ex1.trans ex2) ?_ ?_⟩
      · unfold zipD
        rw [List.length_zipWith]
        have := z1 H2 (by show SzOk S.K H2; rw [← hK]; exact hsz) O .refl
        omega
      · rw [hK]
        exact iter_zip (G := S.gr fd fl) a1 a2 l1 l2 q1 q2 hb⟩⟩
end
section
variable {X : Cx} {S : Sa} {e e2 : Expr} {fa fb : EX} {pos p : Pos}
theorem xzip {elts : List Expr} {kk : Nat} {tpos : Pos} (hK : X.K = S.K) (hg : Gl X "zip") (hm : X.mg "zip" = none) (ha : PE X e (tS S fa)) (hb : PE X e2 (tS S fb))
    (hs : starEach [e, e2] X.env = (false, eval e X.env) :: starEach [e2] X.env := by rfl) (hs2 : starEach [e2] X.env = (false, eval e2 X.env) :: starEach [] X.env := by rfl) (hpl : (backTo pos (starEach [e2] X.env)).any (·.1) = false := by rfl) :
    PI X (.Tuple elts kk tpos) (.Call (.Name "zip" p) [e, e2] [] pos) (tIs S (xZip false fa fb)) := by
  have h2 : PA X [e2] (fun σ H Q => tAs S 1 (xCons fb xNil) σ H fun vs H' => SzOk X.K H' → Q vs H') := pam (pasz' (xcons hb xnil hs2)) fun σ H Q h => fun _ => h
  exact pim (Zs.pi_zip2 hg hm (pa_cons ha h2 hs) hs hpl) (zip_of hK)
theorem xzips {elts : List Expr} {kk : Nat} {tpos q kp : Pos} {ck : Nat} {nm : Str} (hK : X.K = S.K) (hnm : nm = Str.ofString "strict") (hg : Gl X "zip") (hm : X.mg "zip" = none) (ha : PE X e (tS S fa)) (hb : PE X e2 (tS S fb))
    (hs0 : starEach [e, e2] X.env = (false, eval e X.env) :: starEach [e2] X.env := by rfl) (hs2 : starEach [e2] X.env = (false, eval e2 X.env) :: starEach [] X.env := by rfl)
    (hs : backTo pos (starEach [e, e2] X.env) = (false, eval e X.env) :: backTo pos (starEach [e2] X.env) := by rfl) (hpl : (backTo pos (starEach [e, e2] X.env)).any (·.1) = false := by rfl) :
    PI X (.Tuple elts kk tpos) (.Call (.Name "zip" p) [e, e2] [⟨some nm, .Constant (.bool true) ck q, kp⟩] pos) (tIs S (xZip true fa fb)) := by
  have h2 : PA X [e2] (fun σ H Q => tAs S 1 (xCons fb xNil) σ H fun vs H' => SzOk X.K H' → Q vs H') := pam (pasz' (xcons hb xnil hs2)) fun σ H Q h => fun _ => h
  exact pim (Zs.pi_zipS hnm hg hm (pa_cons ha h2 hs0) hs hpl) (zip_of hK)
end
/-! ### name = [..] on one line -/
section
variable {X : Cx} {S : Sa} {pos : Pos}
theorem lc_of {fi : IX} {g : GX} {p : En → M Bool} {fe : EX} {ws vs : List Nat} (hw : ∀ i ∈ ws, i ∈ vs) : ∀ σ H Q, tF S (xLc vs fi g p fe) σ H Q → tLc (tIw S fi) (tG S g ws) (tB S p) (tS S fe) vs σ H Q := fun σ H Q ⟨fd, fl, O, ρ, n, R, eg, hf, hq⟩ => ⟨fd, fl, O, ρ, n, _, eg, hf, fun ds n1 J H1 r1 ex1 sz it D hD =>
    lc_run (wi := tIw S fi) (fi := fi) rfl hw eg ex1 sz it hD r1 fun d n' H' hr ex ro ho => hq d n' D H' hr ex (eg.gd.old ex1 hD) ((eg.gd.ex ex1).ne hD) ro ho⟩
theorem tf_of {f : EX} : ∀ σ H Q, tS S f σ H Q → tF S f σ H Q := fun σ H Q ⟨fd, fl, O, ρ, n, R, eg, hf, hq⟩ => ⟨fd, fl, O, ρ, n, R, eg, hf, fun d n' p H' r ex hn hp rp ho => hq d n' _ H' r ex (rp.rep (eg.gd.off hn) ho)⟩
variable {i : Nat} {y : Str} {py spos : Pos} {elt tg iter : Expr} {ifs : List Expr} {scope : Scope} {own : List (PySem.Str × Nat)} {fi : IX} {g : GX} {p : En → M Bool} {fe : EX} {ws : List Nat}
theorem ysetlc (hc : X.calm = true) (hN : X.N.Nodup) (hy : X.N[i]? = some y) (hyl : X.env.scope.names.lookup y = some .local)
    (hsw : swapsWith (.ListComp elt [⟨tg, iter, ifs, 0⟩] scope pos) (some (.Name y py)) spos.line X.env = pure true) (hi : PI X tg iter (tIw S fi)) (ok : BlkOk X.N X.env.scope scope own)
    (hg : ∀ (s : Shared) (H : Hp) (C : Addr) (cl : List (PySem.Str × Addr)) (fp : List Addr), PG (X.blk s H scope (compEnvC scope cl C X.env) fp) tg (tG S g ws)) (ht : ∀ (s : Shared) (H : Hp) (C : Addr) (cl : List (PySem.Str × Addr)) (fp : List Addr), PTs (X.blk s H scope (compEnvC scope cl C X.env) fp) ifs (tB S p))
    (he : ∀ (s : Shared) (H : Hp) (C : Addr) (cl : List (PySem.Str × Addr)) (fp : List Addr), PE (X.blk s H scope (compEnvC scope cl C X.env) fp) elt (tS S fe)) (hw : ∀ i ∈ ws, i ∈ own.map (·.2) := by decide) (hs : ∀ x, foldedSetIterable iter X.env x = pure x := by intro _; rfl) :
    PS X (.Assign [.Name y py] (.ListComp elt [⟨tg, iter, ifs, 0⟩] scope pos) spos) (tStm S (sSet i (xLc (own.map (·.2)) fi g p fe))) :=
  psm (ps_setLc hc hN hy hyl hsw hi ok hg ht he hs) fun D σ H h => lc_of hw σ H _ (tf_of σ H _ (set_of D σ H h))
theorem yownlc (hc : X.calm = true) (hN : X.N.Nodup) (hy : X.N[i]? = some y) (hyl : X.env.scope.names.lookup y = some .local)
    (hsw : swapsWith (.ListComp elt [⟨tg, iter, ifs, 0⟩] scope pos) (some (.Name y py)) spos.line X.env = pure true) (hi : PI X tg iter (tIw S fi)) (ok : BlkOk X.N X.env.scope scope own)
    (hg : ∀ (s : Shared) (H : Hp) (C : Addr) (cl : List (PySem.Str × Addr)) (fp : List Addr), PG (X.blk s H scope (compEnvC scope cl C X.env) fp) tg (tG S g ws)) (ht : ∀ (s : Shared) (H : Hp) (C : Addr) (cl : List (PySem.Str × Addr)) (fp : List Addr), PTs (X.blk s H scope (compEnvC scope cl C X.env) fp) ifs (tB S p))
    (he : ∀ (s : Shared) (H : Hp) (C : Addr) (cl : List (PySem.Str × Addr)) (fp : List Addr), PE (X.blk s H scope (compEnvC scope cl C X.env) fp) elt (tS S fe)) (hw : ∀ i ∈ ws, i ∈ own.map (·.2) := by decide) (hs : ∀ x, foldedSetIterable iter X.env x = pure x := by intro _; rfl) :
    PS X (.Assign [.Name y py] (.ListComp elt [⟨tg, iter, ifs, 0⟩] scope pos) spos) (tStm S (sOwn i (xLc (own.map (·.2)) fi g p fe))) :=
  psm (ps_setLc hc hN hy hyl hsw hi ok hg ht he hs) fun D σ H h => lc_of hw σ H _ (own_of D σ H h)
end
/-! ### statements that are not reached -/
def sNever : SX := fun _ => nay
theorem ynever {X : Cx} {S : Sa} {st : Stmt} : PS X st (tStm S sNever) := psm ps_never fun D σ H ⟨fd, fl, O0, H0, sf, ρ, O, n, R, sg, hf, hq⟩ => hf
end Pu
set_option Elab.async false
set_option linter.all false
set_option maxRecDepth 100000
set_option maxHeartbeats 4000000
namespace Pu
open PySem PySem.Spec PyProof.Rows L2 Fd Tx
/-! ### comprehensions over any store -/
def csW {ι : Type} (g : GX) (cond : En → M Bool) (step : En → ι → M ι) (ρ : En) : List D → ι → M ι
  | [], s => ret s
  | d :: ds, s => bnd (lft (g d ρ)) fun ρ1 => bnd (cond ρ1) fun b => bnd (if b = true then step ρ1 s else ret s) fun s' => csW g cond step ρ ds s'
section
variable {X : Cx} {S : Sa}
theorem cs_run {ι : Type} {len : ι → Nat} {P : ι → HO → Hp → Prop} (Pm : ∀ s o h h', Same h h' → P s o h → P s o h') {tb : L2.St → Hp → (Hp → Prop) → Prop} {step : En → ι → M ι} {fd fl : Addr} {O : Addr → Bool} {ρ : En} {n : Nat} {σ : L2.St} {H0 H1 : Hp} {J : It} {ds : List D} {g : GX} {cond : En → M Bool} {ws vs : List Nat} {s0 : ι} {o0 : HO} {R : ι → Nat → Prop} {Q : Hp → Prop} {D : Addr} {n1 : Nat}
    (htb : ∀ (s : ι) (σ2 : L2.St) (H3 : Hp) (ρ1 : En) (n3 : Nat) (o : HO) (R' : ι → Nat → Prop) (Nx : Hp → Prop), EG (S.gr fd fl) (offO O D) ρ1 n3 σ2 H3 → H3 D = some o → P s o (hid (offO O D) H3) → D ≠ fd → len s < sizeLine → step ρ1 s n3 R' NoX →
      (∀ s' n' H4 o', R' s' n' → len s' ≤ len s + 1 → Ex (S.gr fd fl) n' H3 H4 → H4 D = some o → P s' o' (hid (offO O D) H4) → Nx (upd H4 D o')) → tb σ2 H3 Nx)
    (hw : ∀ i ∈ ws, i ∈ vs) (hl0 : len s0 = 0) (hP0 : ∀ h, P s0 o0 h) (eg : EG (S.gr fd fl) O ρ n σ H0) (ex1 : Ex (S.gr fd fl) n1 H0 H1) (sz : ds.length ≤ sizeLine) (it : IterW (S.gr fd fl) J ds O H1) (hD : H1 D = none) (r1 : csW g cond step (wipeS ρ vs) ds s0 n1 R NoX)
    (hq : ∀ s n' o H', R s n' → Ex (S.gr fd fl) n' H0 H' → H' D = some o → P s o (hid (offO O D) H') → Q H') :
    ∃ W : Nat → Nat → Hp → Prop, (∃ m, W 0 m (upd H1 D o0)) ∧ ∀ i m H, W i m H →
      (J.stop i H ∧ Q H) ∨ (J.go i H ∧ ∃ Nx : Hp → Prop, (∀ H', Nx H' → ∃ m', m' < m ∧ W (i + 1) m' H') ∧ ∀ x H', J.yld i H x H' → tG S g ws x (L2.wipe σ vs) H' fun σ2 H2 => L2.wipe σ2 vs = L2.wipe σ vs ∧ tB S cond σ2 H2 fun b H3 =>
        if b = true then tb σ2 H3 Nx else Nx H3) := by
  have eg1 := eg.ex ex1
  have hDf : D ≠ fd := eg1.gd.ne hD
  let Pv : Nat → Hp → Prop := fun i H => ∃ n' s o, Ex (S.gr fd fl) n' H1 H ∧ H D = some o ∧ P s o (hid (offO O D) H) ∧ len s ≤ i ∧ csW g cond step (wipeS ρ vs) (ds.drop i) s n' R NoX
  refine ⟨fun i m H => m = ds.length - i ∧ i ≤ ds.length ∧ Pv i H, ⟨ds.length, by simp, Nat.zero_le _, n1, s0, o0, eg1.gd.new hD, upd_same, hP0 _, Nat.le_of_eq hl0, r1⟩, ?_⟩
  rintro i m H ⟨rfl, hi, n', s, o, ex, hDH, hP, hl, hw'⟩
  have fr := eg1.gd.frOff ex hD
  have hDn : H D ≠ none := by rw [hDH]; exact fun z => nomatch z
  have gdO := eg1.gd.offG ex hDn
  by_cases hlt : i < ds.length
  · refine .inr ⟨it.go i _ n' H hlt fr ex, Pv (i + 1), fun H' p' => ⟨ds.length - (i + 1), by omega, rfl, hlt, p'⟩, fun x H' y => ?_⟩
    obtain ⟨ex2, rx⟩ := it.yld i _ n' H x H' _ (List.getElem?_eq_getElem hlt) fr ex gdO y
    rw [List.drop_eq_getElem_cons hlt] at hw'
    have exx := ex.trans ex2
    have hDH' : H' D = some o := ex2.keep D _ hDf hDH
    have egO := (eg1.off exx hD (by rw [hDH']; exact fun z => nomatch z)).wipe vs
    obtain ⟨ρ1, eρ, hc⟩ := lft_iff hw'
    refine ⟨fd, fl, offO O D, wipeS ρ vs, n', ds[i], ρ1, egO, rx, eρ, fun σ2 eg2 tg => ⟨?_, ?_⟩⟩
    · exact wipe_same (by rw [tg.1, wipe_length]) fun j hj => tg.2.1 j fun z => hj (hw j z)
    · refine ⟨fd, fl, offO O D, ρ1, n', _, eg2, hc, fun b n3 H3 r3 ex3 => ?_⟩
      have gdO' : Gd (S.gr fd fl) (offO O D) n' H' := eg2.gd
      have hD3 := ex3.keep D _ hDf hDH'
      have hP3 := Pm _ _ _ _ (gdO'.hid ex3) (Pm _ _ _ _ (gdO.hid ex2) hP)
      cases b with
      | false => exact ⟨n3, s, o, exx.trans ex3, hD3, hP3, Nat.le_succ_of_le hl, r3⟩
      | true =>
        refine htb s σ2 H3 ρ1 n3 o _ (Pv (i + 1)) (eg2.ex ex3) hD3 hP3 hDf (by omega) r3 fun s' n4 H4 o' r4 hl4 ex4 hD4 hP4 => ?_
        have ex14 := (exx.trans ex3).trans ex4
        refine ⟨n4, s', o', ⟨fun b u hb e => ?_, FeedN.upd eg1.gd.feed hD ex14.feed⟩, upd_same, by rw [hid_upd offO_self]; exact hP4, by omega, r4⟩
        rw [upd_ne (ne_of_none e hD)]
        exact ex14.keep b u hb e
  · have e : i = ds.length := by omega
    subst e
    rw [List.drop_length] at hw'
    exact .inl ⟨it.stop _ n' H fr ex, hq s n' o H hw' (ex1.trans ex) hDH hP⟩
end
/-! ### keys and values put -/
def putKs {α : Type} [DecidableEq α] (ks : List α) (k : α) : List α := if hasK ks k = true then ks else ks ++ [k]
def putXs {α β : Type} [DecidableEq α] (ks : List α) (xs : List β) (k : α) (x : β) : List β := if hasK ks k = true then List.zipWith (fun a y => if a = k then x else y) ks xs else xs ++ [x]
theorem putKs_len {α : Type} [DecidableEq α] (ks : List α) (k : α) : (putKs ks k).length ≤ ks.length + 1 := by
  unfold putKs
  split
  · omega
  · rw [List.length_append]; exact Nat.le_refl _
theorem putKX_len {α β : Type} [DecidableEq α] {ks : List α} {xs : List β} {k : α} {x : β} (h : ks.length = xs.length) : (putKs ks k).length = (putXs ks xs k x).length := by
  unfold putKs putXs
  split
  · rw [List.length_zipWith]; omega
  · rw [List.length_append, List.length_append, h]; rfl
theorem putK_zip {α β : Type} [DecidableEq α] [DecidableEq β] {f : α → β} (hf : ∀ a b, f a = f b → a = b) {ks : List α} {vs : List V} {k : α} {v : V} (h : ks.length = vs.length) : putK ((ks.map f).zip vs) (f k) v = ((putKs ks k).map f).zip (putXs ks vs k v) := by
  have hany : (((ks.map f).zip vs).any fun kv => decide (kv.1 = f k)) = hasK ks k := by
    rw [valV_any, val_zip hf h]
  unfold putK putKs putXs
  rw [hany]
  by_cases hk : hasK ks k = true
  · rw [if_pos hk, if_pos hk, if_pos hk]
    clear hany hk
    induction ks generalizing vs with
    | nil => rfl
    | cons a ks ih =>
      cases vs with
      | nil => cases h
      | cons w vs =>
        show (if f a = f k then (f a, v) else (f a, w)) :: (((ks.map f).zip vs).map fun kv => if kv.1 = f k then (kv.1, v) else kv) = (f a, if a = k then v else w) :: ((ks.map f).zip (List.zipWith (fun a y => if a = k then v else y) ks vs))
        rw [ih (Nat.succ.inj h)]
        by_cases e : a = k
        · rw [if_pos (by rw [e]), if_pos e]
        · rw [if_neg (fun z => e (hf _ _ z)), if_neg e]
  · rw [if_neg hk, if_neg hk, if_neg hk, List.map_append, List.zip_append (by rw [List.length_map]; exact h)]
    rfl
theorem Reps.put {α : Type} [DecidableEq α] {G : Gr} {H : Hp} {ks : List α} {xs : List D} {vs : List V} {k : α} {x : D} {v : V} (h : Reps G H xs vs) (r : Rep G H x v) : Reps G H (putXs ks xs k x) (putXs ks vs k v) := by
  unfold putXs
  by_cases hk : hasK ks k = true
  · rw [if_pos hk, if_pos hk]
    clear hk
    induction ks generalizing xs vs with
    | nil => exact .nil
    | cons a ks ih =>
      cases xs with
      | nil => rw [reps_nil.mp h]; exact .nil
      | cons y xs =>
        obtain ⟨w, t, rfl, h1, h2⟩ := reps_cons.mp h
        show Reps G H ((if a = k then x else y) :: _) ((if a = k then v else w) :: _)
        refine .cons ?_ (ih h2)
        by_cases e : a = k
        · rw [if_pos e, if_pos e]; exact r
        · rw [if_neg e, if_neg e]; exact h1
  · rw [if_neg hk, if_neg hk]
    exact h.snoc r
/-! ### dict comprehensions -/
def dStep (key val : EX) (ρ1 : En) (s : List Ky × List D) : M (List Ky × List D) := bnd (key ρ1) fun kd => bnd (val ρ1) fun x => bnd (lft (keyOf kd)) fun k => ret (putKs s.1 k, putXs s.1 s.2 k x)
def dStepT (key val : EX) (ρ1 : En) (s : List (List Ky) × List D) : M (List (List Ky) × List D) := bnd (key ρ1) fun kd => bnd (val ρ1) fun x => bnd (lft (tupK kd)) fun k => ret (putKs s.1 k, putXs s.1 s.2 k x)
where tupK : D → Option (List Ky)
  | .tup ds => if allS ds = false then keysOf ds else none
  | _ => none
def xDc (vs : List Nat) (it : IX) (g : GX) (cond : En → M Bool) (key val : EX) : EX := fun ρ => bnd (it ρ) fun ds => bnd (csW g cond (dStep key val) (wipeS ρ vs) ds ([], [])) fun s => ret (.dic s.1 s.2)
def xDct (vs : List Nat) (it : IX) (g : GX) (cond : En → M Bool) (key val : EX) : EX := fun ρ => bnd (it ρ) fun ds => bnd (csW g cond (dStepT key val) (wipeS ρ vs) ds ([], [])) fun s => ret (.dct s.1 s.2)
section
variable {X : Cx} {S : Sa} {pos : Pos} {kx vx tg iter : Expr} {ifs : List Expr} {scope : Scope} {own : List (PySem.Str × Nat)} {fi : IX} {g : GX} {p : En → M Bool} {fk fv : EX} {ws : List Nat}
theorem xdc (hc : X.calm = true) (hN : X.N.Nodup) (hi : PI X tg iter (tIw S fi)) (ok : BlkOk X.N X.env.scope scope own)
    (hg : ∀ (s : Shared) (H : Hp) (C : Addr) (cl : List (PySem.Str × Addr)) (fp : List Addr), PG (X.blk s H scope (compEnvC scope cl C X.env) fp) tg (tG S g ws)) (ht : ∀ (s : Shared) (H : Hp) (C : Addr) (cl : List (PySem.Str × Addr)) (fp : List Addr), PTs (X.blk s H scope (compEnvC scope cl C X.env) fp) ifs (tB S p))
    (hk : ∀ (s : Shared) (H : Hp) (C : Addr) (cl : List (PySem.Str × Addr)) (fp : List Addr), PE (X.blk s H scope (compEnvC scope cl C X.env) fp) kx (tS S fk)) (he : ∀ (s : Shared) (H : Hp) (C : Addr) (cl : List (PySem.Str × Addr)) (fp : List Addr), PE (X.blk s H scope (compEnvC scope cl C X.env) fp) vx (tS S fv)) (hw : ∀ i ∈ ws, i ∈ own.map (·.2) := by decide) (hs : ∀ x, foldedSetIterable iter X.env x = pure x := by intro _; rfl) :
    PE X (.DictComp kx vx [⟨tg, iter, ifs, 0⟩] scope pos) (tF S (xDc (own.map (·.2)) fi g p fk fv)) :=
  pem (pe_dc hc hN hi ok hg ht hk he hs) fun σ H Q ⟨fd, fl, O, ρ, n, R, eg, hf, hq⟩ => ⟨fd, fl, O, ρ, n, _, eg, hf, fun ds n1 J H1 r1 ex1 sz it D hD =>
    cs_run (step := dStep fk fv) (s0 := (([], []) : List Ky × List Pu.D)) (o0 := .dK []) (R := fun s n => R (.dic s.1 s.2) n) (len := fun s : List Ky × List Pu.D => s.1.length) (P := fun s o h => ∃ vs, o = .dK ((s.1.map kyK).zip vs) ∧ s.1.length = vs.length ∧ Reps (S.gr fd fl) h s.2 vs) (fun s o h h' sm ⟨vs, e, l, r⟩ => ⟨vs, e, l, r.same sm⟩)
      (fun s σ2 H3 ρ1 n3 o R' Nx eg2 hD3 hP3 hDf hsz hst hNx => ⟨fd, fl, offO O D, ρ1, n3, _, eg2, hst, fun dk n4 v4 H4 r4 ex4 rp4 => ⟨fd, fl, offO O D, ρ1, n4, _, eg2.ex ex4, r4, fun dx n5 v5 H5 r5 ex5 rp5 => by
        obtain ⟨k, ek, r6⟩ := lft_iff r5
        obtain ⟨vs, rfl, hl, rp⟩ := hP3
        have g4 := eg2.gd.ex ex4
        have hD5 := ex5.keep D _ hDf (ex4.keep D _ hDf hD3)
        refine ⟨_, kyK k, keyOf_rep' rp4 ek, hD5, ?_, ?_⟩
        · rw [List.length_zip, List.length_map]
          have : s.1.length < sizeLine := hsz
          omega
        · rw [putK_zip (fun _ _ => kyK_inj) hl]
          exact hNx _ n5 H5 _ r6 (putKs_len _ _) (ex4.trans ex5) hD5 ⟨_, rfl, putKX_len hl, ((rp.same (eg2.gd.hid ex4)).same (g4.hid ex5)).put rp5⟩⟩⟩)
      hw rfl (fun h => ⟨[], rfl, rfl, .nil⟩) eg ex1 sz it hD r1 (fun s n' o H' hr ex hDo ⟨vs, eo, hl, rp⟩ => by
        subst eo
        exact hq (.dic s.1 s.2) n' D H' hr ex (eg.gd.old ex1 hD) ((eg.gd.ex ex1).ne hD) ⟨vs, hDo, hl, rp⟩ (fun _ _ z => nomatch z))⟩
theorem xdct (hu : X.A.units + 1 < cLine) (hc : X.calm = true) (hN : X.N.Nodup) (hi : PI X tg iter (tIw S fi)) (ok : BlkOk X.N X.env.scope scope own)
    (hg : ∀ (s : Shared) (H : Hp) (C : Addr) (cl : List (PySem.Str × Addr)) (fp : List Addr), PG (X.blk s H scope (compEnvC scope cl C X.env) fp) tg (tG S g ws)) (ht : ∀ (s : Shared) (H : Hp) (C : Addr) (cl : List (PySem.Str × Addr)) (fp : List Addr), PTs (X.blk s H scope (compEnvC scope cl C X.env) fp) ifs (tB S p))
    (hk : ∀ (s : Shared) (H : Hp) (C : Addr) (cl : List (PySem.Str × Addr)) (fp : List Addr), PE (X.blk s H scope (compEnvC scope cl C X.env) fp) kx (tS S fk)) (he : ∀ (s : Shared) (H : Hp) (C : Addr) (cl : List (PySem.Str × Addr)) (fp : List Addr), PE (X.blk s H scope (compEnvC scope cl C X.env) fp) vx (tS S fv)) (hw : ∀ i ∈ ws, i ∈ own.map (·.2) := by decide) (hs : ∀ x, foldedSetIterable iter X.env x = pure x := by intro _; rfl) :
    PE X (.DictComp kx vx [⟨tg, iter, ifs, 0⟩] scope pos) (tF S (xDct (own.map (·.2)) fi g p fk fv)) :=
  pem (Cc.pe_dictT hu hc hN hi ok hg ht hk he hs) fun σ H Q ⟨fd, fl, O, ρ, n, R, eg, hf, hq⟩ => ⟨fd, fl, O, ρ, n, _, eg, hf, fun ds n1 J H1 r1 ex1 sz it D hD =>
    cs_run (step := dStepT fk fv) (s0 := (([], []) : List (List Ky) × List Pu.D)) (o0 := .dT []) (R := fun s n => R (.dct s.1 s.2) n) (len := fun s : List (List Ky) × List Pu.D => s.1.length) (P := fun s o h => ∃ vs, o = .dT ((s.1.map fun k => k.map kyK).zip vs) ∧ s.1.length = vs.length ∧ Reps (S.gr fd fl) h s.2 vs) (fun s o h h' sm ⟨vs, e, l, r⟩ => ⟨vs, e, l, r.same sm⟩)
      (fun s σ2 H3 ρ1 n3 o R' Nx eg2 hD3 hP3 hDf hsz hst hNx => ⟨fd, fl, offO O D, ρ1, n3, _, eg2, hst, fun dk n4 v4 H4 r4 ex4 rp4 => ⟨fd, fl, offO O D, ρ1, n4, _, eg2.ex ex4, r4, fun dx n5 v5 H5 r5 ex5 rp5 => by
        obtain ⟨k, ek, r6⟩ := lft_iff r5
        obtain ⟨vs, rfl, hl, rp⟩ := hP3
        have g4 := eg2.gd.ex ex4
        have hD5 := ex5.keep D _ hDf (ex4.keep D _ hDf hD3)
        cases dk with
        | tup ks =>
          have ek' : (if allS ks = false then keysOf ks else none) = some k := ek
          by_cases ha : allS ks = false
          · rw [if_pos ha] at ek'
            have rp4' := g4.rep ex5 rp4
            obtain ⟨b, us, rfl, hb, rb⟩ := (show RepW (S.gr fd fl) (offO O D) H5 (.tup ks) v4 from .inl rp4').tupP ha
            have hus := keysOf_reps rb ek'
            subst hus
            refine ⟨b, k.map kyK, _, rfl, hb, hD5, ?_, ?_⟩
            · rw [List.length_zip, List.length_map]
              have : s.1.length < sizeLine := hsz
              omega
            · have e1 := putK_zip (f := fun k : List Ky => k.map kyK) (fun _ _ => map_kyK_inj) (k := k) (v := v5) hl
              show Nx (upd H5 D (.dT (putK ((s.1.map fun k => k.map kyK).zip vs) (k.map kyK) v5)))
              rw [e1]
              exact hNx _ n5 H5 _ r6 (putKs_len _ _) (ex4.trans ex5) hD5 ⟨_, rfl, putKX_len hl, ((rp.same (eg2.gd.hid ex4)).same (g4.hid ex5)).put rp5⟩
          · rw [if_neg ha] at ek'; cases ek'
        | _ => cases ek⟩⟩)
      hw rfl (fun h => ⟨[], rfl, rfl, .nil⟩) eg ex1 sz it hD r1 (fun s n' o H' hr ex hDo ⟨vs, eo, hl, rp⟩ => by
        subst eo
        exact hq (.dct s.1 s.2) n' D H' hr ex (eg.gd.old ex1 hD) ((eg.gd.ex ex1).ne hD) ⟨vs, hDo, hl, rp⟩ (fun _ _ z => nomatch z))⟩
end
end Pu
set_option Elab.async false
set_option linter.all false
set_option maxRecDepth 100000
set_option maxHeartbeats 4000000
namespace Pu
open PySem PySem.Spec PyProof.Rows L2 Fd Tx
/-! ### len({..}) -/
def kStep (elt : EX) (ρ1 : En) (ks : List Ky) : M (List Ky) := bnd (elt ρ1) fun d => bnd (lft (keyOf d)) fun k => chk (decide (ks.length < 60)) (ret (putKs ks k))
def xLenSet (vs : List Nat) (it : IX) (g : GX) (cond : En → M Bool) (elt : EX) : EX := fun ρ => bnd (it ρ) fun ds => bnd (csW g cond (kStep elt) (wipeS ρ vs) ds []) fun ks => chk (decide (ks.length < 64)) (ret (.int ks.length))
section
variable {X : Cx} {S : Sa} {pos cpos pc : Pos} {elt tg iter : Expr} {ifs : List Expr} {scope : Scope} {own : List (PySem.Str × Nat)} {fi : IX} {g : GX} {p : En → M Bool} {fe : EX} {ws : List Nat}
theorem hasK_map {k j : Ky} {ks : List Ky} : hasK ((putKs ks k).map kyK) (kyK j) = (hasK (ks.map kyK) (kyK j) || decide (kyK j = kyK k)) := by
  have hm : ∀ (l : List Ky) (a : Ky), hasK (l.map kyK) (kyK a) = hasK l a := fun l a => by
    unfold hasK
    rw [List.any_map]
    congr 1
    funext b
    show decide (kyK b = kyK a) = decide (b = a)
    rw [decide_eq_decide]
    exact ⟨kyK_inj, fun h => by rw [h]⟩
  rw [hm, hm, Bool.eq_iff_iff, Bool.or_eq_true, hasK_iff, hasK_iff, decide_eq_true_iff]
  unfold putKs
  by_cases h : hasK ks k = true
  · rw [if_pos h]
    exact ⟨.inl, fun z => z.elim id fun e => by rw [kyK_inj e]; exact hasK_iff.mp h⟩
  · rw [if_neg h, List.mem_append, List.mem_singleton]
    exact ⟨fun z => z.imp id fun e => by rw [e], fun z => z.imp id kyK_inj⟩
theorem setK_put (k : Ky) (ks : List Ky) (P : Program) (w : World) (D : Addr) : SetK P w D (fun j => hasK (ks.map kyK) j || decide (j = kyK k)) (if hasK (ks.map kyK) (kyK k) = true then ks.length else ks.length + 1) = SetK P w D (fun j => hasK ((putKs ks k).map kyK) j) (putKs ks k).length := by
  have hm : hasK (ks.map kyK) (kyK k) = hasK ks k := by
    unfold hasK
    rw [List.any_map]
    congr 1
    funext b
    show decide (kyK b = kyK k) = decide (b = k)
    rw [decide_eq_decide]
    exact ⟨kyK_inj, fun h => by rw [h]⟩
  have e1 : (fun j => hasK (ks.map kyK) j || decide (j = kyK k)) = fun j => hasK ((putKs ks k).map kyK) j := by
    funext j
    have hj : ∀ (l : List Ky), (∀ a ∈ l, kyK a ≠ j) → hasK (l.map kyK) j = false := fun l h => by
      rw [Bool.eq_false_iff]
      intro z
      obtain ⟨a, ha, e⟩ := List.mem_map.mp (hasK_iff.mp z)
      exact h a ha e
    rw [Bool.eq_iff_iff, Bool.or_eq_true, hasK_iff, hasK_iff, decide_eq_true_iff]
    unfold putKs
    by_cases h : hasK ks k = true
    · rw [if_pos h]
      exact ⟨fun z => z.elim id fun e => by rw [e]; exact List.mem_map.mpr ⟨k, hasK_iff.mp h, rfl⟩, .inl⟩
    · rw [if_neg h, List.map_append, List.mem_append, List.map_singleton, List.mem_singleton]
  rw [e1, hm]
  congr 1
  unfold putKs
  by_cases h : hasK ks k = true
  · rw [if_pos h, if_pos h]
  · rw [if_neg h, if_neg h, List.length_append]; rfl
theorem lt60 {n : Nat} (h : n < 60) : n + 1 < scanBound := by
  have : 64 < scanBound := by decide
  omega
theorem xlenset (hc : X.calm = true) (hN : X.N.Nodup) (hgl : Gl X "len") (hml : X.mg "len" = none) (hi : PI X tg iter (tIw S fi)) (ok : BlkOk X.N X.env.scope scope own)
    (hg : ∀ (s : Shared) (H : Hp) (C : Addr) (cl : List (PySem.Str × Addr)) (fp : List Addr), PG (X.blk s H scope (compEnvC scope cl C X.env) fp) tg (tG S g ws)) (ht : ∀ (s : Shared) (H : Hp) (C : Addr) (cl : List (PySem.Str × Addr)) (fp : List Addr), PTs (X.blk s H scope (compEnvC scope cl C X.env) fp) ifs (tB S p))
    (he : ∀ (s : Shared) (H : Hp) (C : Addr) (cl : List (PySem.Str × Addr)) (fp : List Addr), PE (X.blk s H scope (compEnvC scope cl C X.env) fp) elt (tS S fe)) (hw : ∀ i ∈ ws, i ∈ own.map (·.2) := by decide) (hs : ∀ x, foldedSetIterable iter X.env x = pure x := by intro _; rfl)
    (hst : starEach [.SetComp elt [⟨tg, iter, ifs, 0⟩] scope pos] X.env = (false, eval (.SetComp elt [⟨tg, iter, ifs, 0⟩] scope pos) X.env) :: starEach [] X.env := by rfl) (hpl : (backTo cpos (starEach [] X.env)).any (·.1) = false := by rfl) :
    PE X (.Call (.Name "len" pc) [.SetComp elt [⟨tg, iter, ifs, 0⟩] scope pos] [] cpos) (tS S (xLenSet (own.map (·.2)) fi g p fe)) :=
  pem (pe_callB Cc.call_lenK hgl hml PySem.boot_len (pa_cons (Cc.pe_setk hc hN hi ok hg ht he hs) pa_nil hst) (by decide) (by decide) hst hpl) fun σ H Q ⟨fd, fl, O, ρ, n, R, eg, hf, hq⟩ => ⟨fd, fl, O, ρ, n, _, eg, hf, fun ds n1 J H1 r1 ex1 sz it D hD =>
    cs_run (step := kStep fe) (s0 := ([] : List Ky)) (o0 := SetK X.prog X.w D (fun _ => false) 0) (R := fun ks n => chk (decide (ks.length < 64)) (ret (Pu.D.int ks.length)) n R NoX) (len := fun s : List Ky => s.length) (P := fun s o h => o = SetK X.prog X.w D (fun j => hasK (s.map kyK) j) s.length) (fun s o h h' sm e => e)
      (fun s σ2 H3 ρ1 n3 o R' Nx eg2 hD3 hP3 hDf hsz hst hNx => ⟨fd, fl, offO O D, ρ1, n3, _, eg2, hst, fun dk n4 v4 H4 r4 ex4 rp4 => by
        obtain ⟨k, ek, r6⟩ := lft_iff r4
        obtain ⟨hb, r7⟩ := chk_iff r6
        have hb' : s.length < 60 := of_decide_eq_true hb
        subst hP3
        have hD4 := ex4.keep D _ hDf hD3
        refine ⟨kyK k, _, s.length, keyOf_rep' rp4 ek, hD4, lt60 hb', ?_⟩
        rw [setK_put]
        exact hNx _ n4 H4 _ r7 (putKs_len _ _) ex4 hD4 rfl⟩)
      hw rfl (fun h => rfl) eg ex1 sz it hD r1 (fun s n' o H' hr ex hDo e => by
        subst e
        obtain ⟨hb, hr⟩ := chk_iff hr
        exact ⟨D, _, s.length, rfl, hDo, of_decide_eq_true hb, hq (.int s.length) n' _ H' hr ex (rep_int.mpr rfl)⟩)⟩
end
/-! ### d.get(k, x) -/
def xGet2 (o k x : EX) : EX := fun ρ => bnd (o ρ) fun d => match d with
  | .dic ks xs => bnd (k ρ) fun kd => bnd (x ρ) fun z => bnd (lft (keyOf kd)) fun j => ret ((lookD ks xs j).getD z)
  | _ => nay
section
variable {X : Cx} {S : Sa} {o e f : Expr} {fo fe ff : EX} {apos cpos : Pos}
theorem look_zip_none {α β : Type} [DecidableEq α] [DecidableEq β] {f : α → β} (hf : ∀ a b, f a = f b → a = b) {G : Gr} {H : Hp} : ∀ {ks : List α} {xs : List D} {vs : List V} {k : α}, ks.length = vs.length → Reps G H xs vs → lookD ks xs k = none → valV ((ks.map f).zip vs) (f k) = none
  | [], xs, vs, k, _, _, _ => rfl
  | a :: ks, xs, [], k, hl, _, e => by cases hl
  | a :: ks, [], v :: vs, k, hl, h, e => by cases h.length
  | a :: ks, y :: ys, v :: vs, k, hl, h, e => by
    obtain ⟨h1, h2⟩ := reps_cc.mp h
    unfold lookD at e
    show valV ((f a, v) :: (ks.map f).zip vs) (f k) = none
    by_cases q : a = k
    · rw [if_pos q] at e; cases e
    · rw [if_neg q] at e
      rw [valV_neg (fun z => q (hf _ _ z))]
      exact look_zip_none hf (Nat.succ.inj hl) h2 e
theorem xget2 (hu : X.A.units + 1 < cLine) (ho : PE X o (tS S fo)) (he : PE X e (tW S fe)) (hf : PE X f (tS S ff)) (m : M2 X o "get" apos e f cpos) : PE X (.Call (.Attribute o "get" apos) [e, f] [] cpos) (tS S (xGet2 fo fe ff)) :=
  pem (pe_dget2 hu ho he hf m) fun σ H Q ⟨fd, fl, O, ρ, n, R, eg, hf, hq⟩ => ⟨fd, fl, O, ρ, n, _, eg, hf, fun d1 n1 v1 H1 r1 ex1 w1 => by
    cases d1 with
    | dic ks xs =>
      obtain ⟨a, vs, rfl, h2, h3, h4⟩ := rep_dic.mp w1
      refine ⟨a, rfl, .inl ⟨_, rd_same hid_le h2⟩, fd, fl, O, ρ, n1, _, eg.ex ex1, r1, fun d2 n2 v2 H2 r2 ex2 w2 => ⟨fd, fl, O, ρ, n2, _, (eg.ex ex1).ex ex2, r2, fun d3 n3 v3 H3 r3 ex3 w3 => ?_⟩⟩
      obtain ⟨j, ej, r4⟩ := lft_iff r3
      have g1 := eg.gd.ex ex1
      have g2 := g1.ex ex2
      have h2' := rd_same hid_le (rd_same (g2.hid ex3) (rd_same (g1.hid ex2) h2))
      have h4' := (h4.same (g1.hid ex2)).same (g2.hid ex3)
      have hv := keyOf_rep w2 ej
      subst hv
      refine ⟨_, .inl ⟨_, kyK j, h2', rfl, rfl⟩, ?_⟩
      have exx := (ex1.trans ex2).trans ex3
      have r4' : R ((lookD ks xs j).getD d3) n3 := r4
      cases hl : lookD ks xs j with
      | none =>
        rw [look_zip_none (f := kyK) (fun _ _ => kyK_inj) h3 h4' hl]
        rw [hl] at r4'
        exact hq _ n3 v3 H3 r4' exx w3
      | some z =>
        obtain ⟨v, hv, rv⟩ := look_zip (f := kyK) (fun _ _ => kyK_inj) h4' hl
        rw [hv]
        rw [hl] at r4'
        exact hq _ n3 v H3 r4' exx rv
    | _ => exact r1.elim⟩
end
end Pu
set_option Elab.async false
set_option linter.all false
set_option maxRecDepth 100000
set_option maxHeartbeats 4000000
namespace Pu
open PySem PySem.Spec PyProof.Rows L2 Fd Tx
/-! ### {"a": x, ..}: keys written, unlike -/
def trsOf (S : Sa) : List Ky → List EX → List (TE × TE)
  | k :: ks, f :: fs => (tC (kV (kyK k)), tS S f) :: trsOf S ks fs
  | _, _ => []
def evAll : List EX → En → M (List D)
  | [], _ => ret []
  | f :: fs, ρ => bnd (f ρ) fun x => bnd (evAll fs ρ) fun xs => ret (x :: xs)
def xDict (ks : List Ky) (fs : List EX) : EX := fun ρ => bnd (evAll fs ρ) fun xs => ret (.dic ks xs)
section
variable {X : Cx} {S : Sa} {pos : Pos}
theorem pairs_run {fd fl : Addr} {O : Addr → Bool} {ρ : En} {σ : L2.St} : ∀ (ks : List Ky) (fs : List EX) (n : Nat) (H : Hp) (R : List D → Nat → Prop) (Q : List (V × V) → Hp → Prop), ks.length = fs.length → EG (S.gr fd fl) O ρ n σ H → evAll fs ρ n R NoX →
    (∀ xs n' vs H', R xs n' → ks.length = vs.length → Ex (S.gr fd fl) n' H H' → Reps (S.gr fd fl) (hid O H') xs vs → Q (((ks.map kyK).zip vs).map fun kv => (kV kv.1, kv.2)) H') → tPairs (trsOf S ks fs) σ H Q
  | [], [], n, H, R, Q, _, eg, hf, hq => hq [] n [] H hf rfl eg.gd.rfl .nil
  | [], _ :: _, n, H, R, Q, h, _, _, _ => by cases h
  | _ :: _, [], n, H, R, Q, h, _, _, _ => by cases h
  | k :: ks, f :: fs, n, H, R, Q, h, eg, hf, hq => by
    show (tC (kV (kyK k))) σ H fun x H1 => tS S f σ H1 fun y H2 => tPairs (trsOf S ks fs) σ H2 fun ps H3 => Q ((x, y) :: ps) H3
    refine ⟨fd, fl, O, ρ, n, _, eg, hf, fun d n1 v H1 r1 ex1 rp1 => ?_⟩
    refine pairs_run ks fs n1 H1 _ _ (Nat.succ.inj h) (eg.ex ex1) r1 fun xs n2 vs H2 r2 hl ex2 rp2 => ?_
    exact hq (d :: xs) n2 (v :: vs) H2 r2 (by rw [List.length_cons, List.length_cons, hl]) (ex1.trans ex2) (.cons ((eg.gd.ex ex1).rep ex2 rp1) rp2)
theorem merge_new : ∀ (ks : List Ky) (vs : List V) (acc : List (Key × V)), ks.Nodup → ks.length = vs.length → (∀ k ∈ ks, ∀ kv ∈ acc, kv.1 ≠ kyK k) → mergeK acc ((ks.map kyK).zip vs) = acc ++ (ks.map kyK).zip vs
  | [], vs, acc, _, _, _ => by simp [mergeK]
  | k :: ks, [], acc, _, h, _ => by cases h
  | k :: ks, v :: vs, acc, nd, h, hn => by
    have nd' := List.nodup_cons.mp nd
    show mergeK acc ((kyK k, v) :: (ks.map kyK).zip vs) = acc ++ (kyK k, v) :: (ks.map kyK).zip vs
    have e1 : mergeK acc ((kyK k, v) :: (ks.map kyK).zip vs) = mergeK (putK acc (kyK k) v) ((ks.map kyK).zip vs) := rfl
    have hno : valV acc (kyK k) = none := by
      unfold valV
      rw [Option.map_eq_none_iff, List.find?_eq_none]
      intro x hx e
      exact hn k List.mem_cons_self x hx (of_decide_eq_true e)
    rw [e1, putK_new _ hno, merge_new ks vs _ nd'.2 (Nat.succ.inj h) fun j hj kv hkv => ?_, List.append_assoc]
    · rfl
    · rcases List.mem_append.mp hkv with h1 | h1
      · exact hn j (List.mem_cons_of_mem _ hj) kv h1
      · rw [List.mem_singleton] at h1
        rw [h1]
        intro e
        rw [kyK_inj e] at nd'
        exact nd'.1 hj
theorem xdict {keys : List (Option Expr)} {values : List Expr} {ks : List Ky} {fs : List EX} (h : PPs X pos keys values (trsOf S ks fs)) (nd : ks.Nodup) (hl2 : ks.length = fs.length) (h15' : ks.length ≤ 15) (hall : keys.all (·.isSome) = true) (hl : keys.length = values.length) (h0 : keys ≠ [])
    (h15 : keys.length ≤ 15) : PE X (.Dict keys values pos) (tF S (xDict ks fs)) :=
  pem (pe_disp h hall hl h0 h15) fun σ H Q ⟨fd, fl, O, ρ, n, R, eg, hf, hq⟩ => fun p hp => by
    have ex0 : Ex (S.gr fd fl) n H (upd H p (.dK [])) := eg.gd.new hp
    have hpf : p ≠ fd := eg.gd.ne hp
    have egO := eg.off ex0 hp (by rw [upd_same]; exact fun z => nomatch z)
    refine pairs_run ks fs n _ _ _ hl2 egO hf fun xs n' vs H' r hlv ex rp => ?_
    have hp' : H' p = some (.dK []) := ex.keep p _ hpf upd_same
    refine ⟨hp', (ks.map kyK).zip vs, rfl, by rw [List.length_zip, List.length_map]; omega, ?_⟩
    rw [merge_new ks vs [] nd hlv (fun _ _ _ z => nomatch z)]
    have exx := ex0.trans ex
    refine hq _ n' p _ r ⟨fun b o hb e => ?_, FeedN.upd eg.gd.feed hp exx.feed⟩ hp hpf ⟨vs, upd_same, hlv, by rw [hid_upd offO_self]; exact rp⟩ (fun _ _ z => nomatch z)
    rw [upd_ne (ne_of_none e hp)]
    exact exx.keep b o hb e
end
/-! ### comprehensions of two clauses -/
def xLc2 (vs : List Nat) (it : IX) (g : GX) (cond : En → M Bool) (vs1 : List Nat) (it1 : IX) (g1 : GX) (cond1 : En → M Bool) (elt : EX) : EX := fun ρ => bnd (it ρ) fun ds => chk (decide (ds.length ≤ 1000)) (bnd (go ds (wipeS ρ vs)) fun ys => ret (.lst ys))
where go : List D → En → M (List D)
  | [], _ => ret []
  | d :: ds, ρw => bnd (lft (g d ρw)) fun ρ1 => bnd (cond ρ1) fun b => bnd (if b = true then bnd (it1 ρ1) fun ds1 => chk (decide (ds1.length ≤ 1000)) (lcW (stepW g1 cond1 elt (wipeS ρ1 vs1)) ds1) else ret []) fun xs => bnd (go ds ρw) fun ys => ret (xs ++ ys)
section
variable {X : Cx} {S : Sa} {pos : Pos} {elt tg iter tg1 iter1 : Expr} {ifs ifs1 : List Expr} {scope : Scope} {own : List (PySem.Str × Nat)} {vs1 : List Nat} {fi fi1 : IX} {g g1 : GX} {p p1 : En → M Bool} {fe : EX} {ws ws1 : List Nat}
theorem xlc2 (hc : X.calm = true) (hN : X.N.Nodup) (hi : PI X tg iter (tIw S fi)) (ok : BlkOk X.N X.env.scope scope own) (hv : ∀ i ∈ vs1, i ∈ own.map (·.2))
    (hg : ∀ (s : Shared) (H : Hp) (C : Addr) (cl : List (PySem.Str × Addr)) (fp : List Addr), PG (X.blk s H scope (compEnvC scope cl C X.env) fp) tg (tG S g ws)) (ht : ∀ (s : Shared) (H : Hp) (C : Addr) (cl : List (PySem.Str × Addr)) (fp : List Addr), PTs (X.blk s H scope (compEnvC scope cl C X.env) fp) ifs (tB S p))
    (hi1 : ∀ (s : Shared) (H : Hp) (C : Addr) (cl : List (PySem.Str × Addr)) (fp : List Addr), PI (X.blk s H scope (compEnvC scope cl C X.env) fp) tg1 iter1 (tIs S fi1))
    (hg1 : ∀ (s : Shared) (H : Hp) (C : Addr) (cl : List (PySem.Str × Addr)) (fp : List Addr), PG (X.blk s H scope (compEnvC scope cl C X.env) fp) tg1 (tG S g1 ws1)) (ht1 : ∀ (s : Shared) (H : Hp) (C : Addr) (cl : List (PySem.Str × Addr)) (fp : List Addr), PTs (X.blk s H scope (compEnvC scope cl C X.env) fp) ifs1 (tB S p1))
    (he : ∀ (s : Shared) (H : Hp) (C : Addr) (cl : List (PySem.Str × Addr)) (fp : List Addr), PE (X.blk s H scope (compEnvC scope cl C X.env) fp) elt (tS S fe)) (hw : ∀ i ∈ ws, i ∈ own.map (·.2) := by decide) (hw1 : ∀ i ∈ ws1, i ∈ vs1 := by decide) (hs : ∀ x, foldedSetIterable iter X.env x = pure x := by intro _; rfl) (hs1 : ∀ env x, foldedSetIterable iter1 env x = pure x := by intro _ _; rfl) :
    PE X (.ListComp elt [⟨tg, iter, ifs, 0⟩, ⟨tg1, iter1, ifs1, 0⟩] scope pos) (tF S (xLc2 (own.map (·.2)) fi g p vs1 fi1 g1 p1 fe)) :=
  pem (pe_lc2 hc hN hi ok hv hg ht hi1 hg1 ht1 he hs hs1) fun σ H0 Q ⟨fd, fl, O, ρ, n, R, eg, hf, hq⟩ => ⟨fd, fl, O, ρ, n, _, eg, hf, fun ds n1 J H1 r1 ex1 sz it D hD => by
    obtain ⟨hds, r1⟩ := chk_iff r1
    have hds := of_decide_eq_true hds
    have eg1 := eg.ex ex1
    have hDf : D ≠ fd := eg1.gd.ne hD
    have h24 : sizeLine = 2 ^ 24 := rfl
    let vs := own.map (·.2)
    let Pv : Nat → Hp → Prop := fun i H => ∃ n' acc vs', Ex (S.gr fd fl) n' H1 H ∧ H D = some (.lst vs') ∧ Reps (S.gr fd fl) (hid (offO O D) H) acc vs' ∧ vs'.length ≤ i * 1000 ∧ xLc2.go g p vs1 fi1 g1 p1 fe (ds.drop i) (wipeS ρ vs) n' (fun ys n'' => R (.lst (acc ++ ys)) n'') NoX
    refine ⟨fun i m H => m = ds.length - i ∧ i ≤ ds.length ∧ Pv i H, ⟨ds.length, by simp, Nat.zero_le _, n1, [], [], eg1.gd.new hD, upd_same, .nil, Nat.le_refl _, r1⟩, ?_⟩
    rintro i m H ⟨rfl, hi, n', acc, vs', ex, hDH, rp, hl, hw'⟩
    have fr := eg1.gd.frOff ex hD
    have hDn : H D ≠ none := by rw [hDH]; exact fun z => nomatch z
    have gdO := eg1.gd.offG ex hDn
    by_cases hlt : i < ds.length
    · refine .inr ⟨it.go i _ n' H hlt fr ex, Pv (i + 1), fun H' p' => ⟨ds.length - (i + 1), by omega, rfl, hlt, p'⟩, fun x H' y => ?_⟩
      obtain ⟨ex2, rx⟩ := it.yld i _ n' H x H' _ (List.getElem?_eq_getElem hlt) fr ex gdO y
      rw [List.drop_eq_getElem_cons hlt] at hw'
      have exx := ex.trans ex2
      have hDH' : H' D = some (.lst vs') := ex2.keep D _ hDf hDH
      have egO := (eg1.off exx hD (by rw [hDH']; exact fun z => nomatch z)).wipe vs
      obtain ⟨ρ1, eρ, hc⟩ := lft_iff hw'
      refine ⟨fd, fl, offO O D, wipeS ρ vs, n', ds[i], ρ1, egO, rx, eρ, fun σ2 eg2 tg => ⟨?_, ?_⟩⟩
      · exact wipe_same (by rw [tg.1, wipe_length]) fun j hj => tg.2.1 j fun z => hj (hw j z)
      · refine ⟨fd, fl, offO O D, ρ1, n', _, eg2, hc, fun b n3 H3 r3 ex3 => ?_⟩
        have gdO' : Gd (S.gr fd fl) (offO O D) n' H' := eg2.gd
        have hD3 := ex3.keep D _ hDf hDH'
        have rp3 := (rp.same (gdO.hid ex2)).same (gdO'.hid ex3)
        cases b with
        | false => exact ⟨n3, acc, vs', exx.trans ex3, hD3, rp3, by omega, r3⟩
        | true =>
          refine ⟨fd, fl, offO O D, ρ1, n3, _, eg2.ex ex3, r3, fun ds1 n4 J1 H4 r4 ex4 sz1 it1 => ?_⟩
          obtain ⟨hd1, r4⟩ := chk_iff r4
          have hd1 := of_decide_eq_true hd1
          have eg3 := eg2.ex ex3
          have eg4 := eg3.ex ex4
          have ex14 := (exx.trans ex3).trans ex4
          have hD4 := ex4.keep D _ hDf hD3
          let Pw : Nat → Hp → Prop := fun j H => ∃ n' acc1 vs'', Ex (S.gr fd fl) n' H1 H ∧ H D = some (.lst vs'') ∧ Reps (S.gr fd fl) (hid (offO O D) H) (acc ++ acc1) vs'' ∧ vs''.length ≤ i * 1000 + j ∧ (∀ b o, b ≠ fd → b ≠ D → H4 b = some o → H b = some o) ∧ lcW (stepW g1 p1 fe (wipeS ρ1 vs1)) (ds1.drop j) n' (fun xs n'' => xLc2.go g p vs1 fi1 g1 p1 fe (ds.drop (i + 1)) (wipeS ρ vs) n'' (fun ys n3 => R (.lst (acc ++ ((acc1 ++ xs) ++ ys))) n3) NoX) NoX
          refine ⟨fun j k H => k = ds1.length - j ∧ j ≤ ds1.length ∧ Pw j H, ⟨ds1.length, by simp, Nat.zero_le _, n4, [], vs', ex14, hD4, by rw [List.append_nil]; exact rp3.same (eg3.gd.hid ex4), by omega, fun _ _ _ _ h => h, r4⟩, ?_⟩
          rintro j k H5 ⟨rfl, hj, n5, acc1, vs'', ex15, hD5, rp5, hl5, kp5, hw5⟩
          have gd5 : Gd (S.gr fd fl) (offO O D) n5 H5 := eg1.gd.offG ex15 (by rw [hD5]; exact fun z => nomatch z)
          have fr5 : Fr (offO O D) H4 (offO O D) H5 := fun b o hb he => ⟨kp5 b o (eg4.gd.nf hb) (fun z => by rw [z, offO_self] at hb; cases hb) he, hb⟩
          by_cases hjt : j < ds1.length
          · refine .inr ⟨it1.go j _ H5 hjt fr5, Pw (j + 1), fun H' p' => ⟨ds1.length - (j + 1), by omega, rfl, hjt, p'⟩, fun x1 H6 y1 => ?_⟩
            obtain ⟨ex6, rx1⟩ := it1.yld j _ n5 H5 x1 H6 _ (List.getElem?_eq_getElem hjt) fr5 gd5 y1
            rw [List.drop_eq_getElem_cons hjt] at hw5
            have ex16 := ex15.trans ex6
            have hD6 : H6 D = some (.lst vs'') := ex6.keep D _ hDf hD5
            have fr6 : Fr (offO O D) H4 (offO O D) H6 := fr5.trans (gd5.fr ex6)
            have eg6 : EG (S.gr fd fl) (offO O D) ρ1 n5 σ2 H6 := by
              refine ⟨gd5.ex ex6, eg4.len, fun a d h => ?_, fun a d h => ?_⟩
              · obtain ⟨v, k1, k2⟩ := eg4.fz a d h
                exact ⟨v, k1, k2.same fr6.hid⟩
              · obtain ⟨q, k1, k2, k3, k4⟩ := eg4.ow a d h
                obtain ⟨q0, j1, j2, j3, j4⟩ := eg2.ow a d h
                have hqD : q ≠ D := by
                  rintro rfl
                  have hn : ∃ xs, d = .lst xs := by
                    cases d with
                    | lst xs => exact ⟨xs, rfl⟩
                    | dic ks xs => obtain ⟨z, z1, _⟩ := k4; rw [hD4] at z1; cases z1
                    | dct ks xs => obtain ⟨z, z1, _⟩ := k4; rw [hD4] at z1; cases z1
                    | obj c xs => obtain ⟨z, z2, z1, _⟩ := k4; rw [hD4] at z1; cases z1
                    | non => exact k4.elim
                    | bl _ => exact k4.elim
                    | int _ => exact k4.elim
                    | str _ => exact k4.elim
                    | tup _ => exact k4.elim
                    | feed => exact k4.elim
                  obtain ⟨h1, h2⟩ := tg.2.2.1 a d h
                  obtain ⟨q1, m1, m2, m3, m4⟩ := ((eg1.wipe vs).ow a d h1)
                  rw [k1] at j1
                  rw [← h2, k1] at m1
                  cases m1
                  exact eg1.gd.alc _ m2 hD
                exact ⟨q, k1, k2, k3, k4.fr fr6 fun o ho => ex6.keep q o k3 (kp5 q o k3 hqD ho)⟩
            obtain ⟨ρ2, eρ2, hc2⟩ := lft_iff hw5
            refine ⟨fd, fl, offO O D, wipeS ρ1 vs1, n5, ds1[j], ρ2, eg6.wipe vs1, rx1, eρ2, fun σ3 eg7 tg7 => ⟨?_, ?_⟩⟩
            · exact wipe_same (by rw [tg7.1, wipe_length]) fun a ha => tg7.2.1 a fun z => ha (hw1 a z)
            · refine ⟨fd, fl, offO O D, ρ2, n5, _, eg7, hc2, fun b8 n8 H8 r8 ex8 => ?_⟩
              have g6 : Gd (S.gr fd fl) (offO O D) n5 H6 := eg7.gd
              have hD8 := ex8.keep D _ hDf hD6
              have rp8 := (rp5.same (gd5.hid ex6)).same (g6.hid ex8)
              have kp8 : ∀ b o, b ≠ fd → b ≠ D → H4 b = some o → H8 b = some o := fun b o h1 h2 h3 => ex8.keep b o h1 (ex6.keep b o h1 (kp5 b o h1 h2 h3))
              cases b8 with
              | false =>
                refine ⟨n8, acc1, vs'', ex16.trans ex8, hD8, rp8, by omega, kp8, r8⟩
              | true =>
                refine ⟨fd, fl, offO O D, ρ2, n8, _, eg7.ex ex8, r8, fun y9 n9 v9 H9 r9 ex9 rp9 => ?_⟩
                have hD9 := ex9.keep D _ hDf hD8
                have ex19 := (ex16.trans ex8).trans ex9
                have g8 : Gd (S.gr fd fl) (offO O D) n8 H8 := g6.ex ex8
                refine ⟨vs'', hD9, by omega, n9, acc1 ++ [y9], vs'' ++ [v9], ⟨fun b o hb e => ?_, FeedN.upd eg1.gd.feed hD ex19.feed⟩, upd_same, ?_, ?_, fun b o h1 h2 h3 => ?_, ?_⟩
                · rw [upd_ne (ne_of_none e hD)]
                  exact ex19.keep b o hb e
                · rw [hid_upd offO_self, ← List.append_assoc]
                  exact (rp8.same (g8.hid ex9)).snoc rp9
                · rw [List.length_append, List.length_singleton]
                  omega
                · rw [upd_ne h2]
                  exact ex9.keep b o h1 (kp8 b o h1 h2 h3)
                · have e : (fun (xs : List Pu.D) (n'' : Nat) => xLc2.go g p vs1 fi1 g1 p1 fe (ds.drop (i + 1)) (wipeS ρ vs) n'' (fun ys n3 => R (.lst (acc ++ ((acc1 ++ [y9] ++ xs) ++ ys))) n3) NoX) = fun xs n'' => xLc2.go g p vs1 fi1 g1 p1 fe (ds.drop (i + 1)) (wipeS ρ vs) n'' (fun ys n3 => R (.lst (acc ++ ((acc1 ++ ((some y9).toList ++ xs)) ++ ys))) n3) NoX := by
                    funext xs n''
                    congr 1
                    funext ys n3
                    rw [List.append_assoc acc1]
                    rfl
                  rw [e]
                  exact r9
          · have e : j = ds1.length := by omega
            subst e
            rw [List.drop_length] at hw5
            refine .inl ⟨it1.stop _ H5 fr5, n5, acc ++ acc1, vs'', ex15, hD5, rp5, by omega, ?_⟩
            have hw6 : xLc2.go g p vs1 fi1 g1 p1 fe (ds.drop (i + 1)) (wipeS ρ vs) n5 (fun ys n3 => R (.lst (acc ++ ((acc1 ++ []) ++ ys))) n3) NoX := hw5
            have e : (fun (ys : List Pu.D) (n3 : Nat) => R (.lst (acc ++ acc1 ++ ys)) n3) = fun ys n3 => R (.lst (acc ++ ((acc1 ++ []) ++ ys))) n3 := by
              funext ys n3
              rw [List.append_nil, List.append_assoc]
            rw [e]
            exact hw6
    · have e : i = ds.length := by omega
      subst e
      rw [List.drop_length] at hw'
      have hw2 : R (.lst (acc ++ [])) n' := hw'
      rw [List.append_nil] at hw2
      exact .inl ⟨it.stop _ n' H fr ex, hq (.lst acc) n' D H hw2 (ex1.trans ex) (eg.gd.old ex1 hD) hDf ⟨vs', hDH, rp⟩ (fun _ _ z => nomatch z)⟩⟩
end
end Pu
set_option Elab.async false
set_option linter.all false
set_option maxRecDepth 100000
set_option maxHeartbeats 4000000
namespace Pu
open PySem PySem.Spec PyProof.Rows L2 Fd Tx
/-! ### sorted, of any alike data -/
def isTupC : D → Bool
  | .tup (_ :: _) => true
  | _ => false
def notNT : D → Bool
  | .non => false
  | .tup _ => false
  | _ => true
def alkD (x y : D) : Bool := PySem.W.alike (toP x) (toP y)
def srtOk (xs : List D) : Bool := xs.all (plN 6) && (xs.all fun x => xs.all fun y => alkD x y) && (xs.all isTupC || xs.all notNT)
def leD : D → D → Bool := PySem.W.dataLe false toP
def sortD : D → Option D
  | .lst xs => if srtOk xs = true then some (.lst (xs.mergeSort leD)) else none
  | _ => none
theorem each_reps {G : Gr} {H : Hp} : ∀ {out : List Value} {xs : List D}, PySem.W.EachIs (fun v d => ∃ x, RelV x v ∧ Rep G H d x) out xs → ∃ ys, Vals ys out ∧ Reps G H xs ys
  | _, _, .nil => ⟨[], .nil, .nil⟩
  | _, _, .cons ⟨x, h1, h2⟩ t => by
    obtain ⟨ys, k1, k2⟩ := each_reps t
    exact ⟨x :: ys, .cons h1 k1, .cons h2 k2⟩
theorem reps_each {G : Gr} {H : Hp} {R : Value → D → Prop} (hR : ∀ d x v, RelV x v → Rep G H d x → R v d) : ∀ {xs : List D} {ys : List V} {out : List Value}, Reps G H xs ys → Vals ys out → PySem.W.EachIs R out xs
  | [], ys, out, h, hv => by
    rw [reps_nil.mp h] at hv
    cases hv
    exact .nil
  | d :: xs, ys, out, h, hv => by
    obtain ⟨v, r, rfl, h1, h2⟩ := reps_cons.mp h
    cases hv with
    | cons a b => exact .cons (hR _ _ _ a h1) (reps_each hR h2 b)
theorem toP_tup {x : D} (h : isTupC x = true) : ∃ a r, toP x = .tuple (a :: r) := by
  cases x <;> first | cases h | skip
  rename_i xs
  cases xs with
  | nil => cases h
  | cons a r => exact ⟨_, _, rfl⟩
theorem toP_nt {x : D} {k : Nat} (hp : plN k x = true) (h : notNT x = true) : toP x ≠ .none ∧ ∀ xs, toP x ≠ .tuple xs := by
  cases x <;> first | cases h | skip
  all_goals first | (refine ⟨?_, fun xs => ?_⟩ <;> (intro z; cases z; done)) | (exfalso; revert hp; cases k <;> intro hp <;> cases hp)
section
variable {X : Cx} {S : Sa}
theorem mem_map_toP {ds : List D} {d : PyData} (h : d ∈ ds.map toP) : ∃ x ∈ ds, toP x = d := List.mem_map.mp h
theorem cr_sortD (hK : X.K = S.K) (hu : X.A.units + 64 < cLine) : CallR X (.builtin "sorted") (rC1 S sortD) := by
  intro pins s σ H xs us Q I rv hx
  obtain ⟨x, rfl, fd, fl, O, n, dx, d, gd, wx, e, q⟩ := hx
  cases dx <;> first | cases e | skip
  rename_i xs
  obtain ⟨hs, rfl⟩ := ite_some e
  obtain ⟨h12, h3⟩ := Bool.and_eq_true_iff.mp hs
  obtain ⟨h1, h2⟩ := Bool.and_eq_true_iff.mp h12
  obtain ⟨p, vs, rfl, hp, rp⟩ := wx.lst
  obtain ⟨its, rvs, hl, hz⟩ := I.list (SqL.of hp)
  rw [Vals.ref1 rv]
  have hal : PySem.W.AllAlike (xs.map toP) := fun a ha b hb => by
    obtain ⟨x, hx, rfl⟩ := mem_map_toP ha
    obtain ⟨y, hy, rfl⟩ := mem_map_toP hb
    exact List.all_eq_true.mp (List.all_eq_true.mp h2 x hx) y hy
  have hk : PySem.W.Sortable (xs.map toP) := by
    rcases Bool.or_eq_true_iff.mp h3 with h | h
    · exact .inl fun a ha => by
        obtain ⟨x, hx, rfl⟩ := mem_map_toP ha
        exact toP_tup (List.all_eq_true.mp h x hx)
    · exact .inr fun a ha => by
        obtain ⟨x, hx, rfl⟩ := mem_map_toP ha
        exact toP_nt (List.all_eq_true.mp h1 x hx) (List.all_eq_true.mp h x hx)
  have hlen : xs.length = vs.length := rp.length
  have each1 : ∀ (R : Value → D → Prop), (∀ d x v, d ∈ xs → RelV x v → Rep (S.gr fd fl) (hid O H) d x → R v d) → PySem.W.EachIs R its xs := by
    intro R hR
    have z := reps_each (R := fun v d => d ∈ xs → R v d) (fun d x v a b hm => hR d x v hm a b) rp rvs
    exact (PySem.W.each_mem z).mono fun v d ⟨h, hm⟩ => h hm
  refine PySem.W.sorted_data (R := fun v d => ∃ x, RelV x v ∧ Rep (S.gr fd fl) (hid O H) d x) (enc := toP) (bs := xs) hl.isList (each1 _ fun d x v _ a b => ⟨x, a, b⟩)
    (each1 _ fun d x v hm a b => Dp.reads I _ _ _ (by rw [hK]; exact Rep.dp 6 d x (List.all_eq_true.mp h1 d hm) b) a) hal hk (by rw [hlen]; exact hz) (fun b hb => ?_) fun out ho hE => ?_
  · have := (plN_lay 6 b (List.all_eq_true.mp h1 b hb)).2
    omega
  · obtain ⟨ys, k1, k2⟩ := each_reps hE
    obtain ⟨ep, he'⟩ := PyProof.Rows.sortedAll_at s.heap its out.toArray
    have hl2 : ys.length ≤ sizeLine := by rw [k1.length, ho, hlen]; exact hz
    have hn := I.hok.fresh (Nat.le_succ s.heap.objs.size)
    exact ⟨.ref _, upd H (s.heap.objs.size + 1) (.lst ys), I.laid (t' := s.toks) (fun _ _ => PyProof.Rows.sortedAll_old) (Nat.le_succ _) ⟨hl2, out, ep, k1, he'⟩, rfl, q _ _ (gd.new hn) (new_lst gd hn k2)⟩
end
/-! ### min(xs, default=d), of ints -/
def minDD : D → D → Option D
  | .lst xs, d => (intsOf xs).map fun ns => match ns with | [] => d | m :: r => .int (r.foldl min m)
  | _, _ => none
/-- min(xs, default=d) -/
def rMinDf (K : PySem.W.Frag) : List V → List V → Hp → VK → Prop := fun vs zs H Q => ∃ (a : Addr) (ns : List Int) (d : V), vs = [V.ref a] ∧ zs = [d] ∧ SqL K H a (ns.map V.int) ∧ (ns = [] → Q d H) ∧ ∀ m r, ns = m :: r → Q (.int (r.foldl min m)) H
theorem alikeAll_ints (ns : List Int) : PySem.W.AlikeAll (ns.map PyData.int) := by
  refine ⟨fun x hx y hy => ?_, fun x hx => ?_⟩
  · obtain ⟨a, _, rfl⟩ := List.mem_map.mp hx
    obtain ⟨b, _, rfl⟩ := List.mem_map.mp hy
    rfl
  · obtain ⟨a, _, rfl⟩ := List.mem_map.mp hx
    exact fun z => nomatch z
theorem dpAll_ints {K : PySem.W.Frag} {H : Hp} : ∀ ns : List Int, DpAll K H (ns.map V.int) (ns.map PyData.int)
  | [] => .nil
  | n :: ns => .cons (.int n) (dpAll_ints ns)
section
variable {X : Cx} {S : Sa}
theorem cr_minDf (hc : X.calm = true) (hu : X.A.units + 64 < cLine) : CallRK X (.builtin "min") [Str.ofString "default"] (rMinDf X.K) := by
  intro pins s σ H vs zs us ws Q I r rz h
  obtain ⟨a, ns, d, rfl, rfl, hs, q0, q⟩ := h
  obtain ⟨its, rv, hl, _⟩ := I.list hs
  rw [Vals.ref1 r]
  obtain ⟨w1, rfl, e1⟩ := vals1 rz
  obtain ⟨as, hr⟩ := Dp.readsAll I _ _ _ (dpAll_ints ns) rv
  show wpAny _ _ (call (.builtin "min") [.ref a] [(Str.ofString "default", w1)]) _ _ _
  refine PySem.W.min_list_default (I.ok.hd hc) hl.isList (as := as) (xs := ns.map PyData.int) (by simpa using hr) (alikeAll_ints ns) (by rw [PySem.W.depth_ints]; omega) (fun e h' tk hk => ?_) fun y ys i v h' tk bs e hv hrd hk => ?_
  · have e' : ns = [] := List.map_eq_nil_iff.mp e
    exact ⟨d, H, I.kept hk, e1, q0 e'⟩
  · cases ns with
    | nil => cases e
    | cons m r =>
      injection e with e2 e3
      subst e2 e3
      rw [PySem.W.minD_ints] at hrd
      cases hrd
      exact ⟨.int _, H, I.kept hk, ⟨_, rfl⟩, q m r rfl⟩
theorem xmind {x : Str} {p pos kp : Pos} {a b : Expr} {fa fb : EX} (hK : X.K = S.K) (hc : X.calm = true) (hu : X.A.units + 64 < cLine) (hg : Gl X x) (hm : X.mg x = none) (hv : bootBuiltins x = some (.builtin "min")) (ha : PE X a (tW S fa)) (hb : PE X b (tS S fb)) (hn : x ≠ "__name__" := by decide) (hdb : (x == ("__debug__" : Str)) = false := by decide)
    (he : starEach [a] X.env = (false, eval a X.env) :: starEach [] X.env := by rfl) (he2 : backTo pos (starEach [a] X.env) = (false, eval a X.env) :: backTo pos (starEach [] X.env) := by rfl) (hpl : (backTo pos (starEach [a] X.env)).any (·.1) = false := by rfl)
    (hall : (backToKw pos (keywordEach [⟨some "default", b, kp⟩] X.env)).all (·.1.isSome) = true := by rfl) (hnone : (backToKw pos (keywordEach [⟨some "default", b, kp⟩] X.env)).any (·.1.isNone) = false := by rfl) (hks : (backToKw pos (keywordEach [⟨some "default", b, kp⟩] X.env)).filterMap (·.1) = [Str.ofString "default"] := by rfl) :
    PE X (.Call (.Name x p) [a] [⟨some "default", b, kp⟩] pos) (tS S (xBin minDD fa fb)) :=
  pem (pe_callBK (cr_minDf hc hu) hg hm hv (pa_cons ha pa_nil he) (pk_cons hb pk_nil) hn hdb he2 hpl hall hnone hks) fun σ H Q ⟨fd, fl, O, ρ, n, R, eg, hf, hq⟩ =>
  ⟨fd, fl, O, ρ, n, _, eg, hf, fun d1 n1 v1 H1 r1 ex1 w1 => ⟨fd, fl, O, ρ, n1, _, eg.ex ex1, r1, fun d2 n2 v2 H2 r2 ex2 w2 => by
    obtain ⟨r, e, hr⟩ := lft_iff r2
    have g1 := eg.gd.ex ex1
    have w1' := w1.ex g1 ex2
    cases d1 <;> first | cases e | skip
    rename_i xs
    obtain ⟨p, vs, rfl, hp, rp⟩ := w1'.lst
    have e' : ((intsOf xs).map fun ns => match ns with | [] => d2 | m :: r => D.int (r.foldl min m)) = some r := e
    cases hi : intsOf xs with
    | none => rw [hi] at e'; cases e'
    | some ns =>
      rw [hi] at e'
      obtain ⟨rfl, _⟩ := intsOf_reps rp hi
      refine ⟨p, ns, v2, rfl, rfl, SqL.of hp, fun z => ?_, fun m r' z => ?_⟩
      · subst z
        injection e' with e'
        subst e'
        exact hq _ n2 v2 H2 hr (ex1.trans ex2) w2
      · subst z
        injection e' with e'
        subst e'
        exact hq _ n2 _ H2 hr (ex1.trans ex2) (rep_int.mpr rfl)⟩⟩
end
/-! ### xs.index(y), of plain data -/
def lidxD : D → D → Option D
  | .lst xs, d => if plN 12 (.lst xs) = true ∧ plN 12 d = true ∧ (xs.findIdx fun y => eqB y d) < xs.length then some (.int (xs.findIdx fun y => eqB y d)) else none
  | _, _ => none
theorem toPs_get : ∀ {xs : List D} {j : Nat} {z : PyData}, (toPs xs)[j]? = some z → ∃ y, xs[j]? = some y ∧ toP y = z
  | [], j, z, h => by cases h
  | x :: xs, 0, z, h => ⟨x, rfl, by injection h⟩
  | x :: xs, j + 1, z, h => toPs_get (xs := xs) (j := j) h
theorem toPs_at : ∀ {xs : List D} {j : Nat} {y : D}, xs[j]? = some y → (toPs xs)[j]? = some (toP y)
  | [], j, z, h => by cases h
  | x :: xs, 0, z, h => by injection h with h; subst h; rfl
  | x :: xs, j + 1, z, h => toPs_at (xs := xs) (j := j) h
section
variable {X : Cx} {S : Sa}
theorem mt_lidxD (hK : X.K = S.K) (hu : X.A.units + 65 < cLine) : MtR X "list.index" (rM1 S lidxD) := by
  intro pins s σ H x xs v us Q I rx rv h
  obtain ⟨y, rfl, fd, fl, O, n, dx, dy, r, gd, wx, wy, e, q⟩ := h
  cases dx <;> first | (cases e; done) | skip
  rename_i xs
  obtain ⟨⟨hp, hd, hlt⟩, rfl⟩ := ite_some (show (if plN 12 (.lst xs) = true ∧ plN 12 dy = true ∧ (xs.findIdx fun y => eqB y dy) < xs.length then some (D.int (xs.findIdx fun y => eqB y dy)) else none) = some r from e)
  have hx := wx.dp hp
  obtain ⟨p, vs, rfl, hpp, rp⟩ := wx.lst
  have hp' : xs.all (plN 11) = true := hp
  refine mt_indexD hu pins s σ H _ _ v us Q I rx rv ⟨p, y, toP dy, toPs xs, xs.findIdx fun y => eqB y dy, toP xs[xs.findIdx fun y => eqB y dy], rfl, rfl, by rw [hK]; exact hx, by rw [hK]; exact wy.dp hd, plD_shaped hp, plD_shaped hd, toPs_at (List.getElem?_eq_getElem hlt), ?_, ?_, q _ H gd.rfl (rep_int.mpr rfl)⟩
  · have := List.findIdx_getElem (w := hlt)
    rw [← eqB_eqv 11 12 _ _ (List.all_eq_true.mp hp' _ (List.getElem_mem hlt)) hd]
    exact this
  · intro m z hm hz
    obtain ⟨y', hy, rfl⟩ := toPs_get hz
    obtain ⟨hml, rfl⟩ := List.getElem?_eq_some_iff.mp hy
    have := List.not_of_lt_findIdx (p := fun y => eqB y dy) (xs := xs) hm
    rw [← eqB_eqv 11 12 _ _ (List.all_eq_true.mp hp' _ (List.getElem_mem hml)) hd]
    simpa using this
end
end Pu

set_option Elab.async false
set_option linter.all false
set_option maxRecDepth 100000
set_option maxHeartbeats 4000000
namespace Pu
open PySem PySem.Spec PyProof.Rows L2 Fd Tx
/-! ### draws as data -/
/-- a digit below m -/
def spDrawB : Sp := fun vs H Q _ => ∃ (d l : Addr) (cs : List Int) (n : Nat) (m : Int), vs = [.ref d, .int m] ∧ FeedAt H d l cs n ∧ n ≤ 1000000 ∧ 0 < m ∧ m < 2 ^ 1000 ∧
  ∀ (r : Nat) (H' : Hp), (r : Int) < m → FeedAt H' d l cs (n + 1) → Keep d H H' → Q (.int r) H'
theorem divB {i m : Int} (h : 0 < m) (h2 : m < 2 ^ 1000) : CDivW i m := wide_div (b := 1000) h (by omega) (by decide) (by decide)
def drawF : FX := fun ds n Q _ => ∃ m : Int, ds = [.feed, .int m] ∧ 0 < m ∧ m < 2 ^ 1000 ∧ n ≤ 1000000 ∧ ∀ r : Nat, (r : Int) < m → Q (.int r) (n + 1)
theorem draw_imp {S : Sa} {vs : List V} {H : Hp} {Q : VK} {E : XK} (h : spF S 2 drawF vs H Q E) : spDrawB vs H Q E := by
  obtain ⟨fd, fl, O, n, ds, R, gd, rp, hl, ⟨m, rfl, hm, hm2, hn, hr⟩, hq⟩ := h
  obtain ⟨v1, t1, rfl, r1, rp⟩ := reps_cons.mp rp
  obtain ⟨v2, t2, rfl, r2, rp⟩ := reps_cons.mp rp
  cases reps_nil.mp rp
  obtain ⟨cs, F⟩ := gd.feed
  refine ⟨fd, fl, cs, n, m, by rw [rep_feed.mp r1, rep_int.mp r2], F, hn, hm, hm2, fun r H' hlt F' k => ?_⟩
  exact hq (.int r) (n + 1) (.int r) H' (hr r hlt) ⟨fun b o hb e => k b o e hb, ⟨cs, F'⟩⟩ (rep_int.mpr rfl)
theorem merge_feed (l : Addr) (a f : Int) : mergeK [] (feedK l a f) = feedK l a f := by
  have p1 : putK ([] : List (Key × V)) (Sum.inr ("cells" : Str)) (.ref l) = [(Sum.inr ("cells" : Str), .ref l)] := putK_new _ rfl
  have p2 : putK [((Sum.inr ("cells" : Str) : Key), V.ref l)] (Sum.inr ("at" : Str)) (.int a) = [(Sum.inr ("cells" : Str), .ref l), (Sum.inr ("at" : Str), .int a)] := putK_new _ (valV_neg n1)
  have p3 : putK [((Sum.inr ("cells" : Str) : Key), V.ref l), (Sum.inr ("at" : Str), .int a)] (Sum.inr ("left" : Str)) (.int f) = feedK l a f := putK_new _ ((valV_neg n2).trans (valV_neg n3))
  show putK (putK (putK [] (Sum.inr ("cells" : Str)) (.ref l)) (Sum.inr ("at" : Str)) (.int a)) (Sum.inr ("left" : Str)) (.int f) = feedK l a f
  rw [p1, p2, p3]
theorem cut_ints (ns : List Int) (lo hi : Option Int) : ∃ cs : List Int, cutV (ns.map V.int) lo hi = cs.map V.int ∧ cs.length ≤ ns.length := by
  unfold cutV
  refine ⟨(ns.drop _).take _, by rw [List.map_take, List.map_drop], ?_⟩
  rw [List.length_take, List.length_drop]
  omega
end Pu
set_option Elab.async false
set_option linter.all false
set_option maxRecDepth 100000
set_option maxHeartbeats 4000000
namespace Pu
open PySem PySem.Spec PyProof.Rows L2 Fd Tx
/-! ### law: the feed is made, the rest is data -/
def spLaw (K : PySem.W.Frag) : Sp := fun vs H Q _ => ∃ (a : Addr) (ns : List Int), vs = [.ref a] ∧ SqL K H a (ns.map V.int) ∧ ns.length ≤ 63 ∧ ∀ H', Q (.bl true) H'
def isTrue : Ct → Nat → Prop
  | .rt d, _ => d = .bl true
  | _, _ => False
/-- what is to be proved of a law's text behind its first line; k slots -/
def lawF (k : Nat) (body : SX) : Prop := body (.no :: .fz .feed :: List.replicate (k - 2) .no) 0 isTrue NoX
theorem feed_run {S : Sa} {k : Nat} {body : SX} {H : Hp} {d l : Addr} {cs : List Int} {a : V} {Q : VK} {D : Ends} (F : FeedAt H d l cs 0) (hM : lawF k body) (q : ∀ H', Q (.bl true) H') (hD : D.rt = Q) :
    tStm S body D (some a :: some (.ref d) :: List.replicate (k - 2) none) H := by
  have fn : FeedN (S.gr d l) 0 H := ⟨cs, F⟩
  have g : Pu.Gd (S.gr d l) (fun x => x == d) 0 H := ⟨fn, by show (d == d) = true; simp, fun x hx => by
    have e : x = d := by simpa using hx
    obtain ⟨o, ho⟩ := fn.at
    have ho' : H d = some o := ho
    rw [e, ho']
    exact fun z => nomatch z⟩
  have key : ∀ (i : Nat) (s : Sl), ((Sl.no :: .fz .feed :: List.replicate (k - 2) Sl.no) : En)[i]? = some s → s = .no ∨ (i = 1 ∧ s = .fz .feed) := fun i s h => by
    cases i with
    | zero => left; injection h with h; exact h.symm
    | succ i => cases i with
      | zero => right; injection h with h; exact ⟨rfl, h.symm⟩
      | succ i =>
        left
        have h' : (List.replicate (k - 2) Sl.no)[i]? = some s := h
        rw [List.getElem?_replicate] at h'
        split at h' <;> cases h'
        rfl
  refine ⟨d, l, fun x => x == d, H, none, .no :: .fz .feed :: List.replicate (k - 2) .no, fun x => x == d, 0, isTrue, ⟨⟨0, g⟩, g.rfl, ⟨g, ?_, fun i e h => ?_, fun i e h => ?_⟩, fun _ h => h, (fun a h1 h2 => by rw [h1] at h2; cases h2), fun i j d e p h1 => ?_, fun i d p h1 => ?_, fun y hy => nomatch hy⟩, hM, fun c n' hc => ?_⟩
  · simp
  · rcases key i _ h with h1 | ⟨rfl, h1⟩
    · cases h1
    · cases h1
      exact ⟨_, rfl, rep_feed.mpr rfl⟩
  · rcases key i _ h with h1 | ⟨rfl, h1⟩ <;> cases h1
  · rcases key i _ h1 with h1 | ⟨rfl, h1⟩ <;> cases h1
  · rcases key i _ h1 with h1 | ⟨rfl, h1⟩ <;> cases h1
  · cases c with
    | rt e =>
      have hc : e = .bl true := hc
      subst hc
      intro v H' ex r
      rw [rep_bl.mp r, hD]
      exact q H'
    | _ => exact hc.elim
end Pu
set_option Elab.async false
set_option linter.all false
set_option maxRecDepth 100000
set_option maxHeartbeats 4000000
namespace Pu
open PySem PySem.Spec PyProof.Rows L2 Fd Tx
section
variable {K : PySem.W.Frag} {x qual : Str} {st : Stmt} {f : Addr} {fd : FuncData} {ps : List Str} {n : Nat} {ks : List Str}
theorem Fun.kb (F : L2.Fun K x qual st f fd) (h : ∀ (kV doc pm : Value) (an : Option Addr) (cdv ct : Value) (us ws : List Value), us.length = n → ws.length = ks.length → bindArgs (PySem.W.fnOf x qual (defArgs st) (defBody st) (defScope st) .none kV doc pm an cdv ct) ⟨us, ks.zip ws⟩ = pure (ps.zip (us ++ ws))) :
    KBn K fd ps n ks (fun us ws => us ++ ws) (fun vs zs => vs ++ zs) := by
  obtain ⟨oc, od, kV, doc, pm, an, cdv, ct, osl, rfl, lk, hcd⟩ := F.ex
  exact ⟨fun s us ws _ l1 l2 => .of_eq (h kV doc pm an cdv ct us ws l1 l2), fun r1 r2 => r1.append r2⟩
theorem FunD.kb0 {kws : List (Str × V)} (F : FunD K x qual (defArgs st) (defBody st) (defScope st) [] kws f fd) (h : ∀ (kV doc pm : Value) (an : Option Addr) (cdv ct : Value) (us ws : List Value), us.length = n → ws.length = ks.length → bindArgs (PySem.W.fnOf x qual (defArgs st) (defBody st) (defScope st) .none kV doc pm an cdv ct) ⟨us, ks.zip ws⟩ = pure (ps.zip (us ++ ws))) :
    KBn K fd ps n ks (fun us ws => us ++ ws) (fun vs zs => vs ++ zs) := by
  obtain ⟨oc, od, dV, kV, doc, pm, an, cdv, ct, osl, rfl, lk, hcd, hD, hK⟩ := F.ex
  rcases hD with ⟨_, rfl⟩ | ⟨e, _⟩
  · exact ⟨fun s us ws _ l1 l2 => .of_eq (h kV doc pm an cdv ct us ws l1 l2), fun r1 r2 => r1.append r2⟩
  · exact absurd rfl e
/-- all are given -/
theorem FunD.bAll {dvs : List V} {kws : List (Str × V)} (F : FunD K x qual (defArgs st) (defBody st) (defScope st) dvs kws f fd) (hd : dvs ≠ [])
    (h : ∀ (T : Addr) (kV doc pm : Value) (an : Option Addr) (cdv ct : Value) (us its : List Value), us.length = ps.length → its.length = dvs.length →
      ∃ k, bindArgs (PySem.W.fnOf x qual (defArgs st) (defBody st) (defScope st) (.ref T) kV doc pm an cdv ct) ⟨us, []⟩ = seqItems? (.ref T) >>= k ∧ k (some its.toArray) = pure (ps.zip us)) : Binds K fd ps [] := by
  obtain ⟨ds, r, b⟩ := FunD.binds1 (ps := ps) F ps.length dvs.length hd (by omega) fun T kV doc pm an cdv ct us its h1 h2 => by
    obtain ⟨k, e1, e2⟩ := h T kV doc pm an cdv ct us its h1 h2
    exact ⟨k, e1, by rw [e2, ← h2, List.drop_length, List.append_nil]⟩
  rw [List.drop_length] at r
  cases r
  exact b
theorem fund_mk {dvs : List V} {kws : List (Str × V)} {oc : Value} {od an : Option Addr} {osl : Array (Option Value)} {dV kV doc pm cdv ct : Value} (l : K.lookup f = some ⟨oc, od, .func (PySem.W.fnOf x qual (defArgs st) (defBody st) (defScope st) dV kV doc pm an cdv ct), osl⟩)
    (c : PySem.W.codeIn K cdv qual = true) (k : PySem.W.keepIn K (.ref f) = true) (hD : DflV K dV dvs) (hK : KwdV K kV kws) : FunD K x qual (defArgs st) (defBody st) (defScope st) dvs kws f (PySem.W.fnOf x qual (defArgs st) (defBody st) (defScope st) dV kV doc pm an cdv ct) := ⟨⟨oc, od, dV, kV, doc, pm, an, cdv, ct, osl, rfl, l, c, hD, hK⟩, k⟩
theorem kit_me {C : Addr} : PySem.W.kitOne K (.ref C) (.ref C) = some true := by
  unfold PySem.W.kitOne
  rw [if_pos (by simp)]
end
end Pu
set_option Elab.async false
set_option linter.all false
set_option maxRecDepth 100000
set_option maxHeartbeats 4000000
namespace Pg
open Pu
def c_LETTERS : D := (.str [97, 98, 99, 100, 101, 102, 103, 104, 105, 106, 107, 108, 109, 110, 111, 112, 113, 114, 115, 116, 117, 118, 119, 120, 121, 122])
def c_LONGEST_NAME : D := (.int 8)
def c_LEAST_SIGNS : D := (.int 2)
def c_MOST_SIGNS : D := (.int 4)
def c_MARKS : D := (.str [120, 45])
def c_WORKS : D := (.str [120])
def c_LONGEST_RHYTHM : D := (.int 6)
def c_LONG : D := (.int 12)
def c_FAR : D := (.int 1000000000000)
def c_MOST_BANDS : D := (.int 6)
def c_MOST_PLACES : D := (.int 40)
def c_MOST_PRESSES : D := (.int 8)
def c_ABOVE : D := (.str [97, 98, 111, 118, 101])
def c_SIDES : D := (.tup [(.str [97, 98, 111, 118, 101]), (.str [98, 101, 108, 111, 119])])
def F__law_draw : FX := drawF
def F_is_whole : FX := fnF 3 (sRet (xAndV (xUn (isiD .int) (xN 0)) (xAndV (xUn notD (xUn (isiD .bool) (xN 0))) (xChain leDo leDo (xN 1) (xN 0) (xN 2)))))
def F_is_text_of : FX := fnF 5 (sSeq (sIf (xOr (xNot (xTr (xUn (isiD .str) (xN 0)))) (xNot (xTb (xChain leDo leDo (xN 2) (xUn lenD (xN 0)) (xN 3))))) (sRet (xC (.bl false))) sNil) (sRet (xUn allD (xLc [4] (xIt (xN 0)) (gN 4) xYes (xBin inDo (xN 4) (xN 1))))))
def F_is_name : FX := fnF 1 (sRet (xCall F_is_text_of (xCons (xN 0) (xCons (xC c_LETTERS) (xCons (xC (.int 1)) (xCons (xC c_LONGEST_NAME) xNil))))))
def F_are_rising : FX := fnF 4 (sSeq (sIf (xNot (xTr (xCall F_is_text_of (xCons (xN 0) (xCons (xC c_LETTERS) (xCons (xN 1) (xCons (xC c_MOST_SIGNS) xNil))))))) (sRet (xC (.bl false))) sNil) (sRet (xUn allD (xLc [2, 3] (xZip false (xN 0) (xSl (xN 0) (xO1 (xC (.int 1))) xO0)) (gTup 2 (gCons (gN 2) (gCons (gN 3) gNil))) xYes (xBin ltDo (xN 2) (xN 3))))))
def F_are_signs : FX := fnF 1 (sRet (xCall F_are_rising (xCons (xN 0) (xCons (xC c_LEAST_SIGNS) xNil))))
def F_is_place : FX := fnF 1 (sSeq (sIf (xOr (xNot (xTr (xUn (isiD .tuple) (xN 0)))) (xOr (xTb (xBin neDo (xUn lenD (xN 0)) (xC (.int 2)))) (xNot (xTr (xCall F_is_name (xCons (xBin idxD (xN 0) (xC (.int 0))) xNil)))))) (sRet (xC (.bl false))) sNil) (sRet (xAndV (xUn (isiD .int) (xBin idxD (xN 0) (xC (.int 1)))) (xAndV (xUn notD (xUn (isiD .bool) (xBin idxD (xN 0) (xC (.int 1))))) (xBin geDo (xBin idxD (xN 0) (xC (.int 1))) (xC (.int 0)))))))
def F_is_rhythm : FX := fnF 1 (sRet (xCall F_is_text_of (xCons (xN 0) (xCons (xC c_MARKS) (xCons (xC (.int 1)) (xCons (xC c_LONGEST_RHYTHM) xNil))))))
def F_common_divisor : FX := fnF 2 (sSeq (sWhile (xTb (xBin gtDo (xN 1) (xC (.int 0)))) (sPar [0, 1] (mFz (xN 1) (mFz (xBin modD (xN 0) (xN 1)) mNil)))) (sRet (xN 0)))
def F_common_multiple : FX := fnF 2 (sRet (xBin mulD (xBin fdivD (xN 0) (xCall F_common_divisor (xCons (xN 0) (xCons (xN 1) xNil)))) (xN 1)))
def F_Band___init__ : FX := inF 0 3 3 (sSeq (sIf (xNot (xTr (xCall F_is_name (xCons (xN 1) xNil)))) sNever sNil) (sSeq (sIf (xNot (xTr (xCall F_is_whole (xCons (xN 2) (xCons (xC (.int 1)) (xCons (xC c_LONG) xNil)))))) sNever sNil) (sSeq (sIf (xNot (xTr (xCall F_is_whole (xCons (xN 3) (xCons (xUn negD (xC c_FAR)) (xCons (xC c_FAR) xNil)))))) sNever sNil) (sSeq (sFldN 0 0 0 (xN 1)) (sSeq (sFldN 0 0 1 (xN 2)) (sFldN 0 0 2 (xN 3)))))))
def F_Band_called : FX := fnF 1 (sRet (xUn (fldD 0 0) (xN 0)))
def F_Band_long : FX := fnF 1 (sRet (xUn (fldD 0 1) (xN 0)))
def F_Band_pace : FX := fnF 1 (sRet (xUn (fldD 0 2) (xN 0)))
def F_is_table : FX := fnF 2 (sSeq (sIf (xOr (xNot (xTr (xUn (isiD .tuple) (xN 0)))) (xNot (xTb (xChain leDo leDo (xC c_LEAST_SIGNS) (xUn lenD (xN 0)) (xC c_MOST_SIGNS))))) (sRet (xC (.bl false))) sNil) (sRet (xUn allD (xLc [1] (xIt (xN 0)) (gN 1) xYes (xCall F_is_text_of (xCons (xN 1) (xCons (xC c_LETTERS) (xCons (xUn lenD (xN 0)) (xCons (xUn lenD (xN 0)) xNil)))))))))
def F_is_press_place : FX := fnF 1 (sRet (xAndV (xCall F_is_place (xCons (xN 0) xNil)) (xBin ltDo (xBin idxD (xN 0) (xC (.int 1))) (xC c_LONG))))
def F_Press___init__ : FX := inF 1 4 4 (sSeq (sIf (xNot (xTr (xCall F_is_press_place (xCons (xN 1) xNil)))) sNever sNil) (sSeq (sIf (xNot (xTr (xCall F_is_press_place (xCons (xN 2) xNil)))) sNever sNil) (sSeq (sIf (xNot (xTr (xCall F_is_table (xCons (xN 3) xNil)))) sNever sNil) (sSeq (sIf (xNot (xTr (xCall F_is_rhythm (xCons (xN 4) xNil)))) sNever sNil) (sSeq (sFldN 0 1 0 (xN 1)) (sSeq (sFldN 0 1 1 (xN 2)) (sSeq (sFldN 0 1 2 (xN 3)) (sFldN 0 1 3 (xN 4)))))))))
def F_Press_above : FX := fnF 1 (sRet (xUn (fldD 1 0) (xN 0)))
def F_Press_below : FX := fnF 1 (sRet (xUn (fldD 1 1) (xN 0)))
def F_Press_table : FX := fnF 1 (sRet (xUn (fldD 1 2) (xN 0)))
def F_Press_rhythm : FX := fnF 1 (sRet (xUn (fldD 1 3) (xN 0)))
def F_Press_has_beat : FX := fnF 2 (sRet (xBin eqDo (xBin idxD (xUn (fldD 1 3) (xN 0)) (xBin modD (xBin subD (xN 1) (xC (.int 1))) (xUn lenD (xUn (fldD 1 3) (xN 0))))) (xC c_WORKS)))
def F_are_bands : FX := fnF 2 (sSeq (sIf (xOr (xNot (xTr (xUn (isi2B .list .tuple) (xN 0)))) (xNot (xTb (xChain leDo leDo (xC (.int 1)) (xUn lenD (xN 0)) (xC c_MOST_BANDS))))) (sRet (xC (.bl false))) sNil) (sSeq (sIf (xNot (xTr (xUn allD (xLc [1] (xIt (xN 0)) (gN 1) xYes (xUn (isiC 0) (xN 1)))))) (sRet (xC (.bl false))) sNil) (sSeq (sIf (xTb (xBin ltDo (xLenSet [1] (xIt (xN 0)) (gN 1) xYes (xMeth 0 F_Band_called (xN 1) xNil)) (xUn lenD (xN 0)))) (sRet (xC (.bl false))) sNil) (sRet (xBin leDo (xUn sumD (xLc [1] (xIt (xN 0)) (gN 1) xYes (xMeth 0 F_Band_long (xN 1) xNil))) (xC c_MOST_PLACES))))))
def F_fits : FX := fnF 6 (sSeq (sIf (xOr (xNot (xTr (xUn (isiC 1) (xN 0)))) (xTb (xBin neDo (xUn lenD (xMeth 1 F_Press_table (xN 0) xNil)) (xUn lenD (xN 1))))) (sRet (xC (.bl false))) sNil) (sSeq (sFor (xIt (xTup (xCons (xMeth 1 F_Press_above (xN 0) xNil) (xCons (xMeth 1 F_Press_below (xN 0) xNil) xNil)))) (gTup 2 (gCons (gN 3) (gCons (gN 4) gNil))) (sIf (xTb (xBin geDo (xN 4) (xGet2 (xN 2) (xN 3) (xC (.int 0))))) (sRet (xC (.bl false))) sNil)) (sRet (xUn allD (xLc [5] (xIt (xMeth 1 F_Press_table (xN 0) xNil)) (gN 5) xYes (xCall F_is_text_of (xCons (xN 5) (xCons (xN 1) (xCons (xUn lenD (xN 1)) (xCons (xUn lenD (xN 1)) xNil))))))))))
def F_Work___init__ : FX := inF 2 5 7 (sSeq (sIf (xNot (xTr (xCall F_are_signs (xCons (xN 1) xNil)))) sNever sNil) (sSeq (sIf (xNot (xTr (xCall F_are_bands (xCons (xN 2) xNil)))) sNever sNil) (sSeq (sSet 4 (xDc [5] (xIt (xN 2)) (gN 5) xYes (xMeth 0 F_Band_called (xN 5) xNil) (xMeth 0 F_Band_long (xN 5) xNil))) (sSeq (sIf (xOr (xNot (xTr (xUn (isi2B .list .tuple) (xN 3)))) (xTb (xBin gtDo (xUn lenD (xN 3)) (xC c_MOST_PRESSES)))) sNever sNil) (sSeq (sIf (xNot (xTr (xUn allD (xLc [5] (xIt (xN 3)) (gN 5) xYes (xCall F_fits (xCons (xN 5) (xCons (xN 1) (xCons (xN 4) xNil)))))))) sNever sNil) (sSeq (sFldN 0 2 0 (xN 1)) (sSeq (sFldN 0 2 1 (xUn tupleD (xN 2))) (sSeq (sFldN 0 2 2 (xUn tupleD (xN 3))) (sSeq (sFldN 0 2 3 (xLc2 [5, 6] (xIt (xN 2)) (gN 5) xYes [6] (xR1 (xMeth 0 F_Band_long (xN 5) xNil)) (gN 6) xYes (xTup (xCons (xMeth 0 F_Band_called (xN 5) xNil) (xCons (xN 6) xNil))))) (sFldN 0 2 4 (xDct [6, 7] (xEnum (xFldO 0 2 3)) (gTup 2 (gCons (gN 6) (gCons (gN 7) gNil))) xYes (xN 7) (xN 6))))))))))))
def F_Work_presses : FX := fnF 1 (sRet (xUn listD (xUn (fldD 2 2) (xN 0))))
def F_Work_has_place : FX := fnF 2 (sRet (xAndV (xCall F_is_place (xCons (xN 1) xNil)) (xBin inDo (xN 1) (xUn (fldD 2 4) (xN 0)))))
def F_Work_place_in : FX := fnF 2 (sSeq (sIf (xNot (xTr (xMeth 2 F_Work_has_place (xN 0) (xCons (xN 1) xNil)))) sNever sNil) (sRet (xBin idxD (xUn (fldD 2 4) (xN 0)) (xN 1))))
def F_Work_band_of : FX := fnF 3 (sRet (xBin idxD (xBin addD (xLc [2] (xIt (xUn (fldD 2 1) (xN 0))) (gN 2) (xTb (xBin eqDo (xMeth 0 F_Band_called (xN 2) xNil) (xN 1))) (xN 2)) (xLst (xCons (xC .non) xNil))) (xC (.int 0))))
def F_need_press : FX := fnF 2 (sSeq (sIf (xNot (xTr (xCall F_is_whole (xCons (xN 1) (xCons (xC (.int 0)) (xCons (xBin subD (xUn lenD (xMeth 2 F_Work_presses (xN 0) xNil)) (xC (.int 1))) xNil)))))) sNever sNil) (sRet (xBin idxD (xMeth 2 F_Work_presses (xN 0) xNil) (xN 1))))
def F_where : FX := fnF 4 (sSeq (sExpr (xMeth 2 F_Work_place_in (xN 0) (xCons (xN 1) xNil))) (sSeq (sSet 3 (xMeth 2 F_Work_band_of (xN 0) (xCons (xBin idxD (xN 1) (xC (.int 0))) xNil))) (sRet (xTup (xCons (xBin idxD (xN 1) (xC (.int 0))) (xCons (xBin modD (xBin addD (xBin idxD (xN 1) (xC (.int 1))) (xBin mulD (xMeth 0 F_Band_pace (xN 3) xNil) (xN 2))) (xMeth 0 F_Band_long (xN 3) xNil)) xNil))))))
def F_passes : FX := fnF 9 (sSeq (sSet 4 (xCall F_need_press (xCons (xN 0) (xCons (xN 1) xNil)))) (sSeq (sIf (xOr (xNot (xTr (xUn (isiD .str) (xN 2)))) (xTb (xBin ninDo (xN 2) (xC c_SIDES)))) sNever sNil) (sSeq (sExpr (xMeth 2 F_Work_place_in (xN 0) (xCons (xN 3) xNil))) (sSeq (sSet 5 (xIf (xTb (xBin eqDo (xN 2) (xC c_ABOVE))) (xMeth 1 F_Press_above (xN 4) xNil) (xMeth 1 F_Press_below (xN 4) xNil))) (sSeq (sSet 6 (xCall F_common_multiple (xCons (xMeth 0 F_Band_long (xMeth 2 F_Work_band_of (xN 0) (xCons (xBin idxD (xN 3) (xC (.int 0))) xNil)) xNil) (xCons (xUn lenD (xMeth 1 F_Press_rhythm (xN 4) xNil)) xNil)))) (sSeq (sSet 7 (xLc [8] (xR2 (xC (.int 1)) (xBin addD (xN 6) (xC (.int 1)))) (gN 8) (xAnd (xTr (xMeth 1 F_Press_has_beat (xN 4) (xCons (xN 8) xNil))) (xTb (xBin eqDo (xCall F_where (xCons (xN 0) (xCons (xN 3) (xCons (xN 8) xNil)))) (xN 5)))) (xN 8))) (sRet (xTup (xCons (xN 6) (xCons (xN 7) xNil))))))))))
def F_how_many_passes : FX := fnF 9 (sSeq (sAsg (gTup 2 (gCons (gN 5) (gCons (gN 6) gNil))) (xCall F_passes (xCons (xN 0) (xCons (xN 1) (xCons (xN 2) (xCons (xN 3) xNil)))))) (sSeq (sSet 7 (xBin modD (xN 4) (xN 5))) (sRet (xBin addD (xBin mulD (xBin fdivD (xN 4) (xN 5)) (xUn lenD (xN 6))) (xUn lenD (xLc [8] (xIt (xN 6)) (gN 8) (xTb (xBin leDo (xN 8) (xN 7))) (xN 8)))))))
def F__law_pick : FX := fnF 2 (sRet (xBin idxD (xN 1) (xCall F__law_draw (xCons (xN 0) (xCons (xUn lenD (xN 1)) xNil)))))
def F__law_names : FX := fnF 10 (sSeq (sPar [2, 3] (mFz (xC (.str [97, 98, 99, 100, 101, 102, 103, 104, 105, 106, 107, 108, 109, 110, 111, 112, 113, 114, 115, 116, 117, 118, 119, 120, 121, 122])) (mOw (xLst xNil) mNil))) (sSeq (sSet 5 (xBM .str joinD (xC (.str [])) (xLc [4] (xR1 (xBin addD (xC (.int 1)) (xCall F__law_draw (xCons (xN 0) (xCons (xC (.int 8)) xNil))))) (gN 4) xYes (xCall F__law_pick (xCons (xN 0) (xCons (xN 2) xNil)))))) (sSeq (sPar [6, 7, 8] (mFz (xCall F__law_draw (xCons (xN 0) (xCons (xUn lenD (xN 5)) xNil))) (mFz (xCall F__law_draw (xCons (xN 0) (xCons (xC (.int 26)) xNil))) (mFz (xCall F__law_pick (xCons (xN 0) (xCons (xLst (xCons (xC (.int 1)) (xCons (xC (.int 3)) (xCons (xC (.int 5)) (xCons (xC (.int 7)) (xCons (xC (.int 9)) (xCons (xC (.int 11)) (xCons (xC (.int 15)) (xCons (xC (.int 17)) xNil))))))))) xNil))) mNil)))) (sSeq (sFor (xR1 (xN 1)) (gN 4) (sSeq (sSet 9 (xIf (xTb (xBin gtDo (xCall F__law_draw (xCons (xN 0) (xCons (xC (.int 3)) xNil))) (xC (.int 0)))) (xSl (xN 5) (xO1 (xBin addD (xN 6) (xC (.int 1)))) xO0) (xC (.str [])))) (sApp 3 (xBin addD (xBin addD (xSl (xN 5) xO0 (xO1 (xN 6))) (xBin idxD (xN 2) (xBin modD (xBin addD (xN 7) (xBin mulD (xN 8) (xN 4))) (xC (.int 26))))) (xN 9))))) (sRet (xV 3))))))
def F__law_signs : FX := fnF 6 (sSeq (sPar [2, 3, 4] (mFz (xC (.str [97, 98, 99, 100, 101, 102, 103, 104, 105, 106, 107, 108, 109, 110, 111, 112, 113, 114, 115, 116, 117, 118, 119, 120, 121, 122])) (mFz (xCall F__law_draw (xCons (xN 0) (xCons (xC (.int 26)) xNil))) (mFz (xCall F__law_pick (xCons (xN 0) (xCons (xLst (xCons (xC (.int 1)) (xCons (xC (.int 3)) (xCons (xC (.int 5)) (xCons (xC (.int 7)) (xCons (xC (.int 9)) (xCons (xC (.int 11)) xNil))))))) xNil))) mNil)))) (sRet (xBM .str joinD (xC (.str [])) (xUn sortedD (xLc [5] (xR1 (xN 1)) (gN 5) xYes (xBin idxD (xN 2) (xBin modD (xBin addD (xN 3) (xBin mulD (xN 4) (xN 5))) (xC (.int 26)))))))))
def F__law_table : FX := fnF 8 (sSeq (sPar [2, 3] (mOw (xLst xNil) (mFz (xBin eqDo (xCall F__law_draw (xCons (xN 0) (xCons (xC (.int 3)) xNil))) (xC (.int 0))) mNil))) (sSeq (sFor (xR1 (xUn lenD (xN 1))) (gN 4) (sSeq (sIf (xTr (xN 3)) (sSeq (sPar [5, 6] (mOw (xUn listD (xN 1)) (mFz (xC (.str [])) mNil))) (sFor (xR1 (xUn lenD (xN 1))) (gN 7) (sAddPop addD 6 5 (xN 6) (xCall F__law_draw (xCons (xN 0) (xCons (xUn lenD (xV 5)) xNil)))))) (sSet 6 (xBM .str joinD (xC (.str [])) (xLc [7] (xR1 (xUn lenD (xN 1))) (gN 7) xYes (xCall F__law_pick (xCons (xN 0) (xCons (xN 1) xNil))))))) (sApp 2 (xN 6)))) (sRet (xUn tupleD (xV 2)))))
def F__law_raw : FX := fnF 16 (sSeq (sPar [2, 3] (mFz (xCall F__law_signs (xCons (xN 0) (xCons (xBin addD (xC (.int 2)) (xCall F__law_draw (xCons (xN 0) (xCons (xBin subD (xBin idxD (xN 1) (xC (.int 0))) (xC (.int 1))) xNil)))) xNil))) (mFz (xCall F__law_names (xCons (xN 0) (xCons (xBin addD (xC (.int 1)) (xCall F__law_draw (xCons (xN 0) (xCons (xBin idxD (xN 1) (xC (.int 1))) xNil)))) xNil))) mNil))) (sSeq (sPar [4, 5, 6] (mOw (xLst xNil) (mFz (xLst xNil) (mOw (xLst xNil) mNil)))) (sSeq (sFor (xEnum (xN 3)) (gTup 2 (gCons (gN 7) (gCons (gN 8) gNil))) (sSeq (sSet 9 (xBin minD (xBin addD (xC (.int 1)) (xCall F__law_draw (xCons (xN 0) (xCons (xBin idxD (xN 1) (xC (.int 2))) xNil)))) (xBin subD (xBin subD (xBin addD (xC (.int 41)) (xN 7)) (xUn lenD (xN 5))) (xUn lenD (xN 3))))) (sSeq (sSet 10 (xBin subD (xBin powD (xC (.int 10)) (xC (.int 12))) (xCall F__law_draw (xCons (xN 0) (xCons (xC (.int 12)) xNil))))) (sSeq (sSet 11 (xCall F__law_pick (xCons (xN 0) (xCons (xLst (xCons (xC (.int 0)) (xCons (xC (.int 1)) (xCons (xC (.int 1)) (xCons (xUn negD (xC (.int 1))) (xCons (xC (.int 2)) (xCons (xN 9) (xCons (xBin addD (xN 9) (xC (.int 1))) (xCons (xUn negD (xC (.int 3))) (xCons (xN 10) (xCons (xBin subD (xC (.int 0)) (xN 10)) xNil))))))))))) xNil)))) (sSeq (sApp 4 (xTup (xCons (xN 8) (xCons (xN 9) (xCons (xN 11) xNil))))) (sSet 5 (xBin addD (xN 5) (xLc [12] (xR1 (xN 9)) (gN 12) xYes (xTup (xCons (xN 8) (xCons (xN 12) xNil))))))))))) (sSeq (sFor (xR1 (xCall F__law_draw (xCons (xN 0) (xCons (xBin addD (xBin idxD (xN 1) (xC (.int 3))) (xC (.int 1))) xNil)))) (gN 12) (sSeq (sSet 13 (xBM .str joinD (xC (.str [])) (xLc [15] (xR1 (xBin addD (xC (.int 1)) (xCall F__law_draw (xCons (xN 0) (xCons (xBin idxD (xN 1) (xC (.int 4))) xNil))))) (gN 15) xYes (xCall F__law_pick (xCons (xN 0) (xCons (xC (.str [120, 120, 45])) xNil)))))) (sSeq (sSet 14 (xCall F__law_pick (xCons (xN 0) (xCons (xN 5) xNil)))) (sApp 6 (xTup (xCons (xN 14) (xCons (xCall F__law_pick (xCons (xN 0) (xCons (xN 5) xNil))) (xCons (xCall F__law_table (xCons (xN 0) (xCons (xN 2) xNil))) (xCons (xN 13) xNil))))))))) (sSeq (sFrz 6) (sSeq (sFrz 4) (sRet (xDict [.inr [115, 105, 103, 110, 115], .inr [98, 97, 110, 100, 115], .inr [112, 114, 101, 115, 115, 101, 115], .inr [112, 108, 97, 99, 101, 115]] [(xN 2), (xN 4), (xN 6), (xN 5)]))))))))
def F__law_made : FX := fnF 9 (sSeq (sSet 1 (xLc [2, 3, 4] (xIt (xBin idxD (xN 0) (xC (.str [98, 97, 110, 100, 115])))) (gTup 3 (gCons (gN 2) (gCons (gN 3) (gCons (gN 4) gNil)))) xYes (xCallK F_Band___init__ (xCons (xN 2) (xCons (xN 3) xNil)) (xCons (xN 4) xNil)))) (sRet (xCall F_Work___init__ (xCons (xBin idxD (xN 0) (xC (.str [115, 105, 103, 110, 115]))) (xCons (xN 1) (xCons (xLc [5, 6, 7, 8] (xIt (xBin idxD (xN 0) (xC (.str [112, 114, 101, 115, 115, 101, 115])))) (gTup 4 (gCons (gN 5) (gCons (gN 6) (gCons (gN 7) (gCons (gN 8) gNil))))) xYes (xCallK F_Press___init__ (xCons (xN 5) (xCons (xN 6) (xCons (xN 7) xNil))) (xCons (xN 8) xNil))) xNil))))))
def F_next_pass : FX := fnF 10 (sSeq (sAsg (gTup 2 (gCons (gN 5) (gCons (gN 6) gNil))) (xCall F_passes (xCons (xN 0) (xCons (xN 1) (xCons (xN 2) (xCons (xN 3) xNil)))))) (sSeq (sSet 7 (xBin mulD (xBin fdivD (xN 4) (xN 5)) (xN 5))) (sSeq (sSet 8 (xLc [9] (xIt (xBin addD (xN 6) (xLc [9] (xIt (xN 6)) (gN 9) xYes (xBin addD (xN 5) (xN 9))))) (gN 9) (xTb (xBin gtDo (xBin addD (xN 7) (xN 9)) (xN 4))) (xBin addD (xN 7) (xN 9)))) (sRet (xBin minDD (xN 8) (xC .non))))))
end Pg
set_option Elab.async false
set_option linter.all false
set_option maxRecDepth 100000
set_option maxHeartbeats 4000000
namespace Pu
/-! ### stepping by simp -/
/-- so that simp writes its steps down -/
theorem eqo {α : Sort _} {a b : α} (h : a = b) : a = b := h
section
variable {α β γ : Type} {ρ : En} {n : Nat}
@[simp] theorem bnd_ret_e (a : α) (f : α → M β) : bnd (ret a) f = f a := eqo rfl
@[simp] theorem bnd_bnd_e (m : M α) (f : α → M β) (g : β → M γ) : bnd (bnd m f) g = bnd m fun a => bnd (f a) g := eqo rfl
@[simp] theorem lft_some_e (a : α) : lft (some a) = ret a := eqo rfl
@[simp] theorem bnd_nay_e (f : α → M β) : bnd nay f = nay := eqo rfl
@[simp] theorem lft_none_e : (lft (none : Option α) : M α) = nay := eqo rfl
@[simp] theorem startE_0 : startE 0 [] = [] := eqo rfl
@[simp] theorem startE_c (k : Nat) (d : D) (ds : List D) : startE (k + 1) (d :: ds) = .fz d :: startE k ds := by
  unfold startE
  rw [List.map_cons, List.cons_append, List.length_cons, Nat.add_sub_add_right]
@[simp] theorem startE_n (k : Nat) : startE (k + 1) [] = .no :: startE k [] := eqo rfl
@[simp] theorem fnF_e (k : Nat) (b : SX) (ds : List D) : fnF k b ds = bnd (b (startE k ds)) fun c => match c with | .rt d => ret d | .nx _ => ret .non | _ => nay := eqo rfl
@[simp] theorem inF_e (c m k : Nat) (b : SX) (ds : List D) : inF c m k b ds = bnd (b (.ow (.obj c []) :: startE k ds)) fun r => match r with | .nx ρ => bnd (lft (ownOb ρ 0)) fun cx => chk (decide (cx.1 = c ∧ cx.2.length = m)) (ret (.obj cx.1 cx.2)) | _ => nay := eqo rfl
@[simp] theorem getS_0 (d : D) (r : En) : getS (.fz d :: r) 0 = some d := eqo rfl
@[simp] theorem getS_s (s : Sl) (r : En) (i : Nat) : getS (s :: r) (i + 1) = getS r i := eqo rfl
@[simp] theorem getV_0 (d : D) (r : En) : getV (.fz d :: r) 0 = some d := eqo rfl
@[simp] theorem getV_s (s : Sl) (r : En) (i : Nat) : getV (s :: r) (i + 1) = getV r i := eqo rfl
@[simp] theorem xN_e (i : Nat) : xN i ρ = lft (getS ρ i) := eqo rfl
@[simp] theorem xV_e (i : Nat) : xV i ρ = lft (getV ρ i) := eqo rfl
@[simp] theorem xC_e (d : D) : xC d ρ = ret d := eqo rfl
@[simp] theorem xBin_e (op : D → D → Option D) (a b : EX) : xBin op a b ρ = bnd (a ρ) fun x => bnd (b ρ) fun y => lft (op x y) := eqo rfl
@[simp] theorem xUn_e (op : D → Option D) (a : EX) : xUn op a ρ = bnd (a ρ) fun x => lft (op x) := eqo rfl
@[simp] theorem xTb_e (f : EX) : xTb f ρ = bnd (f ρ) fun d => lft (blD d) := eqo rfl
@[simp] theorem xTr_e (f : EX) : xTr f ρ = bnd (f ρ) fun d => lft (truD d) := eqo rfl
@[simp] theorem xChain_e (op op' : D → D → Option D) (a b c : EX) : xChain op op' a b c ρ = bnd (a ρ) fun x => bnd (b ρ) fun y => bnd (lft (op x y)) fun r => bnd (lft (blD r)) fun k => if k = true then bnd (c ρ) fun z => lft (op' y z) else ret (.bl false) := eqo rfl
@[simp] theorem xAnd_e (p q : En → M Bool) : xAnd p q ρ = bnd (p ρ) fun k => if k = true then q ρ else ret false := eqo rfl
@[simp] theorem xOr_e (p q : En → M Bool) : xOr p q ρ = bnd (p ρ) fun k => if k = true then ret true else q ρ := eqo rfl
@[simp] theorem xNot_e (p : En → M Bool) : xNot p ρ = bnd (p ρ) fun k => ret (!k) := eqo rfl
@[simp] theorem xAndV_e (a b : EX) : xAndV a b ρ = bnd (a ρ) fun d => bnd (lft (blD d)) fun k => if k = true then b ρ else ret (.bl false) := eqo rfl
@[simp] theorem xOrV_e (a b : EX) : xOrV a b ρ = bnd (a ρ) fun d => bnd (lft (blD d)) fun k => if k = true then ret (.bl true) else b ρ := eqo rfl
@[simp] theorem xIf_e (t : En → M Bool) (a b : EX) : xIf t a b ρ = bnd (t ρ) fun k => if k = true then a ρ else b ρ := eqo rfl
@[simp] theorem xNil_e : xNil ρ = ret [] := eqo rfl
@[simp] theorem xCons_e (a : EX) (r : En → M (List D)) : xCons a r ρ = bnd (a ρ) fun x => bnd (r ρ) fun xs => ret (x :: xs) := eqo rfl
@[simp] theorem xTup_e (f : En → M (List D)) : xTup f ρ = bnd (f ρ) fun xs => ret (.tup xs) := eqo rfl
@[simp] theorem xLst_e (f : En → M (List D)) : xLst f ρ = bnd (f ρ) fun xs => ret (.lst xs) := eqo rfl
@[simp] theorem xO0_e : xO0 ρ = ret none := eqo rfl
@[simp] theorem xO1_e (f : EX) : xO1 f ρ = bnd (f ρ) fun d => bnd (lft (intD d)) fun i => ret (some i) := eqo rfl
@[simp] theorem xSl_e (a : EX) (l h : En → M (Option Int)) : xSl a l h ρ = bnd (a ρ) fun x => bnd (l ρ) fun lo => bnd (h ρ) fun hi => lft (slD lo hi x) := eqo rfl
@[simp] theorem xFldO_e (j c i : Nat) : xFldO j c i ρ = lft (getO ρ j c i) := eqo rfl
@[simp] theorem xBM_e (t : Tn) (op : D → D → Option D) (a b : EX) : xBM t op a b ρ = bnd (a ρ) fun x => if isT t x = true then bnd (b ρ) fun y => lft (op x y) else nay := eqo rfl
@[simp] theorem xIt_e (f : EX) : xIt f ρ = bnd (f ρ) fun d => lft (iterD d) := eqo rfl
@[simp] theorem xR1_e (f : EX) : xR1 f ρ = bnd (f ρ) fun d => bnd (lft (intD d)) fun i => lft (rngD 0 i) := eqo rfl
@[simp] theorem xR2_e (f g : EX) : xR2 f g ρ = bnd (f ρ) fun d => bnd (g ρ) fun e => bnd (lft (intD d)) fun i => bnd (lft (intD e)) fun j => lft (rngD i j) := eqo rfl
@[simp] theorem xEnum_e (f : EX) : xEnum f ρ = bnd (f ρ) fun d => match d with | .lst xs => ret (enumD xs) | _ => nay := eqo rfl
@[simp] theorem xZip_e (st : Bool) (f g : EX) : xZip st f g ρ = bnd (f ρ) fun d => bnd (g ρ) fun e => bnd (lft (iterD d)) fun xs => bnd (lft (iterD e)) fun ys => chk (!st || decide (xs.length = ys.length)) (ret (zipD xs ys)) := eqo rfl
@[simp] theorem xLc_e (vs : List Nat) (it : IX) (g : GX) (cond : En → M Bool) (elt : EX) : xLc vs it g cond elt ρ = bnd (it ρ) fun ds => bnd (lcW (stepW g cond elt (wipeS ρ vs)) ds) fun ys => ret (.lst ys) := eqo rfl
@[simp] theorem xYes_e : xYes ρ = ret true := eqo rfl
@[simp] theorem xCall_e (F : FX) (as : En → M (List D)) : xCall F as ρ = bnd (as ρ) F := eqo rfl
@[simp] theorem xCallK_e (F : FX) (as ks : En → M (List D)) : xCallK F as ks ρ = bnd (as ρ) fun xs => bnd (ks ρ) fun ys => F (xs ++ ys) := eqo rfl
def mcall (c : Nat) (F : FX) (d : D) (m : M (List D)) : M D := match d with | .obj c' xs => if c' = c then bnd m fun ds => F (.obj c' xs :: ds) else nay | _ => nay
@[simp] theorem mcall_obj (c : Nat) (F : FX) (xs : List D) (m : M (List D)) : mcall c F (.obj c xs) m = bnd m fun ds => F (.obj c xs :: ds) := if_pos rfl
@[simp] theorem xMeth_e (c : Nat) (F : FX) (o : EX) (as : En → M (List D)) : xMeth c F o as ρ = bnd (o ρ) fun d => mcall c F d (as ρ) := eqo rfl
@[simp] theorem sNil_e : sNil ρ = ret (.nx ρ) := eqo rfl
@[simp] theorem sNever_e : sNever ρ = nay := eqo rfl
@[simp] theorem sSeq_e (f g : SX) : sSeq f g ρ = bnd (f ρ) fun c => match c with | .nx ρ' => g ρ' | .rt d => ret (.rt d) | .bk ρ' => ret (.bk ρ') | .ct ρ' => ret (.ct ρ') := eqo rfl
@[simp] theorem sExpr_e (f : EX) : sExpr f ρ = bnd (f ρ) fun _ => ret (.nx ρ) := eqo rfl
@[simp] theorem chk_t (m : M α) : chk true m = m := eqo rfl
@[simp] theorem noOb_no : noOb (some .no) = true := eqo rfl
@[simp] theorem noOb_fz (d : D) : noOb (some (.fz d)) = true := eqo rfl
@[simp] theorem sSet_e (i : Nat) (f : EX) : sSet i f ρ = chk (noOb ρ[i]?) (bnd (f ρ) fun d => ret (.nx (ρ.set i (.fz d)))) := eqo rfl
@[simp] theorem sOwn_e (i : Nat) (f : EX) : sOwn i f ρ = chk (noOb ρ[i]?) (bnd (f ρ) fun d => ret (.nx (ρ.set i (.ow d)))) := eqo rfl
@[simp] theorem sAsg_e (g : GX) (f : EX) : sAsg g f ρ = bnd (f ρ) fun d => bnd (lft (g d ρ)) fun ρ' => ret (.nx ρ') := eqo rfl
@[simp] theorem sRet_e (f : EX) : sRet f ρ = bnd (f ρ) fun d => ret (.rt d) := eqo rfl
@[simp] theorem sRetN_e : sRetN ρ = ret (.rt .non) := eqo rfl
@[simp] theorem sIf_e (t : En → M Bool) (a b : SX) : sIf t a b ρ = bnd (t ρ) fun k => if k = true then a ρ else b ρ := eqo rfl
@[simp] theorem sPar_e (is : List Nat) (f : En → M (List Sl)) : sPar is f ρ = bnd (f ρ) fun sl => bnd (lft (setAll is sl ρ)) fun ρ' => ret (.nx ρ') := eqo rfl
@[simp] theorem mNil_e : mNil ρ = ret [] := eqo rfl
@[simp] theorem mFz_e (a : EX) (r : En → M (List Sl)) : mFz a r ρ = bnd (a ρ) fun x => bnd (r ρ) fun xs => ret (.fz x :: xs) := eqo rfl
@[simp] theorem mOw_e (a : EX) (r : En → M (List Sl)) : mOw a r ρ = bnd (a ρ) fun x => bnd (r ρ) fun xs => ret (.ow x :: xs) := eqo rfl
@[simp] theorem sFor_e (it : IX) (g : GX) (b : SX) : sFor it g b ρ = bnd (it ρ) fun ds => forW g b ds ρ := eqo rfl
@[simp] theorem gN_e (i : Nat) (d : D) : gN i d ρ = if noOb ρ[i]? = true then some (ρ.set i (.fz d)) else none := eqo rfl
@[simp] theorem gTup_e (k : Nat) (gs : List D → En → Option En) (xs : List D) : gTup k gs (.tup xs) ρ = if xs.length = k then gs xs ρ else none := eqo rfl
@[simp] theorem gNil_e : gNil [] ρ = some ρ := eqo rfl
@[simp] theorem gCons_e (g : GX) (gs : List D → En → Option En) (x : D) (xs : List D) : gCons g gs (x :: xs) ρ = (g x ρ).bind fun ρ1 => gs xs ρ1 := eqo rfl
@[simp] theorem wipeS_nil : wipeS ρ [] = ρ := eqo rfl
@[simp] theorem wipeS_cons (v : Nat) (vs : List Nat) : wipeS ρ (v :: vs) = (wipeS ρ vs).set v .no := eqo rfl
@[simp] theorem stepW_e (g : GX) (cond : En → M Bool) (elt : EX) (d : D) : stepW g cond elt ρ d = bnd (lft (g d ρ)) fun ρ1 => bnd (cond ρ1) fun b => if b = true then bnd (elt ρ1) fun y => ret (some y) else ret none := eqo rfl
/-! operations -/
@[simp] theorem blD_e (b : Bool) : blD (.bl b) = some b := eqo rfl
@[simp] theorem truD_bl (b : Bool) : truD (.bl b) = some b := eqo rfl
@[simp] theorem notD_e (b : Bool) : notD (.bl b) = some (.bl (!b)) := eqo rfl
@[simp] theorem intD_e (i : Int) : intD (.int i) = some i := eqo rfl
@[simp] theorem isT_str (s : List Nat) : isT .str (.str s) = true := eqo rfl
@[simp] theorem isT_lst (s : List D) : isT .list (.lst s) = true := eqo rfl
@[simp] theorem lenD_lst (s : List D) : lenD (.lst s) = some (.int s.length) := eqo rfl
@[simp] theorem lenD_tup (s : List D) : lenD (.tup s) = some (.int s.length) := eqo rfl
@[simp] theorem lenD_str {s : List Nat} (h : s.length ≤ bigN) : lenD (.str s) = some (.int s.length) := if_pos h
@[simp] theorem subD_ii (a b : Int) : subD (.int a) (.int b) = some (.int (a - b)) := eqo rfl
@[simp] theorem negD_ii (a : Int) : negD (.int a) = some (.int (-a)) := eqo rfl
@[simp] theorem ltDo_ii (a b : Int) : ltDo (.int a) (.int b) = some (.bl (decide (a < b))) := eqo rfl
@[simp] theorem leDo_ii (a b : Int) : leDo (.int a) (.int b) = some (.bl (decide (a ≤ b))) := eqo rfl
@[simp] theorem gtDo_ii (a b : Int) : gtDo (.int a) (.int b) = some (.bl (decide (b < a))) := eqo rfl
@[simp] theorem geDo_ii (a b : Int) : geDo (.int a) (.int b) = some (.bl (decide (b ≤ a))) := eqo rfl
@[simp] theorem ltDo_ss (a b : List Nat) : ltDo (.str a) (.str b) = some (.bl (decide (a < b))) := eqo rfl
@[simp] theorem isDo_non (d : D) : isDo d .non = some (.bl (isNon d)) := eqo rfl
@[simp] theorem isNotDo_non (d : D) : isNotDo d .non = some (.bl (!isNon d)) := eqo rfl
@[simp] theorem isNon_non : isNon .non = true := eqo rfl
@[simp] theorem isNon_int (i : Int) : isNon (.int i) = false := eqo rfl
@[simp] theorem eqDo_ii (a b : Int) : eqDo (.int a) (.int b) = some (.bl (a == b)) := eqo rfl
@[simp] theorem neDo_ii (a b : Int) : neDo (.int a) (.int b) = some (.bl (!(a == b))) := eqo rfl
@[simp] theorem eqDo_ss (a b : List Nat) : eqDo (.str a) (.str b) = some (.bl (a == b)) := eqo rfl
@[simp] theorem neDo_ss (a b : List Nat) : neDo (.str a) (.str b) = some (.bl (!(a == b))) := eqo rfl
@[simp] theorem addD_ii (a b : Int) : addD (.int a) (.int b) = some (.int (a + b)) := eqo rfl
@[simp] theorem modD_ii {a b : Int} (h : 0 < b) : modD (.int a) (.int b) = some (.int (a % b)) := if_pos h
@[simp] theorem isi_int_int (a : Int) : isiD .int (.int a) = some (.bl true) := eqo rfl
@[simp] theorem isi_bool_int (a : Int) : isiD .bool (.int a) = some (.bl false) := eqo rfl
@[simp] theorem isi_str_str (a : List Nat) : isiD .str (.str a) = some (.bl true) := eqo rfl
@[simp] theorem isi_tup_tup (a : List D) : isiD .tuple (.tup a) = some (.bl true) := eqo rfl
@[simp] theorem isiC_e (c : Nat) (xs : List D) : isiC c (.obj c xs) = some (.bl true) := if_pos rfl
@[simp] theorem fldD_e (c i : Nat) (xs : List D) : fldD c i (.obj c xs) = xs[i]? := if_pos rfl
/-- a comprehension whose steps are known -/
theorem lcW_ret {step : D → M (Option D)} {f : D → Option D} : ∀ {ds : List D}, (∀ d ∈ ds, step d = ret (f d)) → lcW step ds = ret (ds.filterMap f)
  | [], _ => rfl
  | d :: ds, h => by
    have h1 := h d (.head _)
    have h2 := lcW_ret (step := step) (f := f) (ds := ds) fun x hx => h x (.tail _ hx)
    show bnd (step d) (fun o => bnd (lcW step ds) fun ys => ret (o.toList ++ ys)) = _
    rw [h1, h2]
    show ret ((f d).toList ++ ds.filterMap f) = _
    congr 1
    cases e : f d with
    | none => rw [List.filterMap_cons_none e]; rfl
    | some y => rw [List.filterMap_cons_some e]; rfl
theorem lcW_map {step : D → M (Option D)} {xs : List α} {g : α → D} (f : α → D) (h : ∀ x ∈ xs, step (g x) = ret (some (f x))) : lcW step (xs.map g) = ret (xs.map f) := by
  induction xs with
  | nil => rfl
  | cons x xs ih =>
    show bnd (step (g x)) (fun o => bnd (lcW step (xs.map g)) fun ys => ret (o.toList ++ ys)) = _
    rw [h x (.head _), ih fun y hy => h y (.tail _ hy)]
    rfl
theorem lcW_fil {step : D → M (Option D)} {xs : List α} {g : α → D} (p : α → Bool) (f : α → D) (h : ∀ x ∈ xs, step (g x) = ret (if p x = true then some (f x) else none)) : lcW step (xs.map g) = ret ((xs.filter p).map f) := by
  induction xs with
  | nil => rfl
  | cons x xs ih =>
    show bnd (step (g x)) (fun o => bnd (lcW step (xs.map g)) fun ys => ret (o.toList ++ ys)) = _
    rw [h x (.head _), ih fun y hy => h y (.tail _ hy)]
    by_cases hp : p x = true
    · rw [if_pos hp, List.filter_cons_of_pos hp]; rfl
    · rw [if_neg hp, List.filter_cons_of_neg hp]; rfl
theorem blsOf_of (xs : List α) (p : α → Bool) : blsOf (xs.map fun x => D.bl (p x)) = some (xs.map p) := by
  have := blsOf_map (xs.map p)
  rw [List.map_map] at this
  exact this
theorem intsOf_of (xs : List α) (p : α → Int) : intsOf (xs.map fun x => D.int (p x)) = some (xs.map p) := by
  have := intsOf_map (xs.map p)
  rw [List.map_map] at this
  exact this
theorem txtsOf_of (xs : List α) (p : α → List Nat) : txtsOf (xs.map fun x => D.str (p x)) = some (xs.map p) := by
  have := txtsOf_map (xs.map p)
  rw [List.map_map] at this
  exact this
theorem allD_of (xs : List α) (p : α → Bool) : allD (.lst (xs.map fun x => D.bl (p x))) = some (.bl (xs.all p)) := by
  show (blsOf _).map _ = _
  rw [blsOf_of]
  show some (D.bl ((xs.map p).all id)) = _
  rw [List.all_map]
  rfl
theorem sumD_of (xs : List α) (p : α → Int) : sumD (.lst (xs.map fun x => D.int (p x))) = some (.int (xs.map p).sum) := by
  show (intsOf _).map _ = _
  rw [intsOf_of]
  rfl
@[simp] theorem iterD_lst (xs : List D) : iterD (.lst xs) = some xs := eqo rfl
@[simp] theorem iterD_tup (xs : List D) : iterD (.tup xs) = some xs := eqo rfl
@[simp] theorem iterD_str {s : List Nat} (h : s.length ≤ bigN) : iterD (.str s) = some (s.map fun c => .str [c]) := if_pos h
@[simp] theorem inDo_c (c : Nat) (t : List Nat) : inDo (.str [c]) (.str t) = some (.bl (decide (c ∈ t))) := eqo rfl
theorem atI_nat' {xs : List α} (i : Nat) : L2.atI xs (i : Int) = xs[i]? := by
  cases e : xs[i]? with
  | some x => exact L2.atI_nat e
  | none =>
    unfold L2.atI L2.ixN
    have := List.getElem?_eq_none_iff.mp e
    simp
    omega
@[simp] theorem idx_t0 (a : D) (r : List D) : idxD (.tup (a :: r)) (.int 0) = some a := atI_nat' 0
@[simp] theorem idx_t1 (a b : D) (r : List D) : idxD (.tup (a :: b :: r)) (.int 1) = some b := atI_nat' 1
@[simp] theorem idx_t2 (a b c : D) (r : List D) : idxD (.tup (a :: b :: c :: r)) (.int 2) = some c := atI_nat' 2
@[simp] theorem idx_t3 (a b c d : D) (r : List D) : idxD (.tup (a :: b :: c :: d :: r)) (.int 3) = some d := atI_nat' 3
@[simp] theorem idx_t4 (a b c d e : D) (r : List D) : idxD (.tup (a :: b :: c :: d :: e :: r)) (.int 4) = some e := atI_nat' 4
@[simp] theorem idx_l0 (a : D) (r : List D) : idxD (.lst (a :: r)) (.int 0) = some a := atI_nat' 0
@[simp] theorem idx_l1 (a b : D) (r : List D) : idxD (.lst (a :: b :: r)) (.int 1) = some b := atI_nat' 1
theorem idx_ln (xs : List D) (i : Nat) : idxD (.lst xs) (.int i) = xs[i]? := atI_nat' i
theorem idx_tn (xs : List D) (i : Nat) : idxD (.tup xs) (.int i) = xs[i]? := atI_nat' i
theorem idx_sn {s : List Nat} (h : s.length ≤ bigN) (i : Nat) : idxD (.str s) (.int i) = s[i]?.map fun c => .str [c] := by
  show (if s.length ≤ bigN then (L2.atI s (i : Int)).map _ else none) = _
  rw [if_pos h, atI_nat']
end
end Pu
set_option Elab.async false
set_option linter.all false
set_option maxRecDepth 100000
set_option maxHeartbeats 4000000
namespace Pu
section
variable {α β γ : Type} {ρ : En} {n : Nat}
@[simp] theorem ownOb_0 (c : Nat) (xs : List D) (r : En) : ownOb (.ow (.obj c xs) :: r) 0 = some (c, xs) := eqo rfl
@[simp] theorem ownL_0 (xs : List D) (r : En) : ownL (.ow (.lst xs) :: r) 0 = some xs := eqo rfl
@[simp] theorem ownL_s (s : Sl) (r : En) (i : Nat) : ownL (s :: r) (i + 1) = ownL r i := eqo rfl
@[simp] theorem getW_0 (d : D) (r : En) : getV (.ow (.lst xs) :: r) 0 = some (.lst xs) := eqo rfl
@[simp] theorem sFldN_e (i c k : Nat) (fe : EX) : sFldN i c k fe ρ = bnd (fe ρ) fun d => bnd (lft (ownOb ρ i)) fun cx => chk (decide (cx.1 = c ∧ cx.2.length = k)) (ret (.nx (ρ.set i (.ow (.obj cx.1 (cx.2 ++ [d])))))) := eqo rfl
@[simp] theorem sApp_e (i : Nat) (f : EX) : sApp i f ρ = bnd (lft (ownL ρ i)) fun xs => bnd (f ρ) fun d => chk (decide (xs.length < bigN)) (ret (.nx (ρ.set i (.ow (.lst (xs ++ [d])))))) := eqo rfl
@[simp] theorem sFrz_e (i : Nat) : sFrz i ρ = match ρ[i]? with | some (.ow d) => bnd (lft (notObj d)) fun d => ret (.nx (ρ.set i (.fz d))) | some (.fz _) => ret (.nx ρ) | _ => nay := eqo rfl
@[simp] theorem notObj_lst (xs : List D) : notObj (.lst xs) = some (.lst xs) := eqo rfl
@[simp] theorem getO_0 (c i : Nat) (xs : List D) (r : En) : getO (.ow (.obj c xs) :: r) 0 c i = xs[i]? := by
  show (if c = c then xs[i]? else none) = _
  rw [if_pos rfl]
@[simp] theorem xDc_e (vs : List Nat) (it : IX) (g : GX) (cond : En → M Bool) (key val : EX) : xDc vs it g cond key val ρ = bnd (it ρ) fun ds => bnd (csW g cond (dStep key val) (wipeS ρ vs) ds ([], [])) fun s => ret (.dic s.1 s.2) := eqo rfl
@[simp] theorem xDct_e (vs : List Nat) (it : IX) (g : GX) (cond : En → M Bool) (key val : EX) : xDct vs it g cond key val ρ = bnd (it ρ) fun ds => bnd (csW g cond (dStepT key val) (wipeS ρ vs) ds ([], [])) fun s => ret (.dct s.1 s.2) := eqo rfl
@[simp] theorem xLenSet_e (vs : List Nat) (it : IX) (g : GX) (cond : En → M Bool) (elt : EX) : xLenSet vs it g cond elt ρ = bnd (it ρ) fun ds => bnd (csW g cond (kStep elt) (wipeS ρ vs) ds []) fun ks => chk (decide (ks.length < 64)) (ret (.int ks.length)) := eqo rfl
@[simp] theorem xGet2_e (o k x : EX) : xGet2 o k x ρ = bnd (o ρ) fun d => match d with | .dic ks xs => bnd (k ρ) fun kd => bnd (x ρ) fun z => bnd (lft (keyOf kd)) fun j => ret ((lookD ks xs j).getD z) | _ => nay := eqo rfl
@[simp] theorem xDict_e (ks : List Ky) (fs : List EX) : xDict ks fs ρ = bnd (evAll fs ρ) fun xs => ret (.dic ks xs) := eqo rfl
@[simp] theorem evAll_nil : evAll [] ρ = ret [] := eqo rfl
@[simp] theorem evAll_cons (f : EX) (fs : List EX) : evAll (f :: fs) ρ = bnd (f ρ) fun x => bnd (evAll fs ρ) fun xs => ret (x :: xs) := eqo rfl
@[simp] theorem xLc2_e (vs : List Nat) (it : IX) (g : GX) (cond : En → M Bool) (vs1 : List Nat) (it1 : IX) (g1 : GX) (cond1 : En → M Bool) (elt : EX) : xLc2 vs it g cond vs1 it1 g1 cond1 elt ρ = bnd (it ρ) fun ds => chk (decide (ds.length ≤ 1000)) (bnd (xLc2.go g cond vs1 it1 g1 cond1 elt ds (wipeS ρ vs)) fun ys => ret (.lst ys)) := eqo rfl
@[simp] theorem setAll_nil : setAll [] [] ρ = some ρ := eqo rfl
@[simp] theorem setAll_cons (i : Nat) (is : List Nat) (s : Sl) (sl : List Sl) : setAll (i :: is) (s :: sl) ρ = if noOb ρ[i]? = true then setAll is sl (ρ.set i s) else none := eqo rfl
@[simp] theorem keyOf_int (i : Int) : keyOf (.int i) = some (.inl i) := eqo rfl
@[simp] theorem keyOf_str (s : List Nat) : keyOf (.str s) = some (.inr s) := eqo rfl
@[simp] theorem keysOf_nil : keysOf [] = some [] := eqo rfl
theorem keysOf_cons {x : D} {xs : List D} {k : Ky} {ks : List Ky} (h1 : keyOf x = some k) (h2 : keysOf xs = some ks) : keysOf (x :: xs) = some (k :: ks) := by
  show (match keyOf x, keysOf xs with | some k, some ks => some (k :: ks) | _, _ => none) = _
  rw [h1, h2]
/-- comprehensions by a fold -/
theorem csW_fold {ι : Type} {gx : GX} {cond : En → M Bool} {step : En → ι → M ι} {g : α → D} (I : List α → ι → Prop) (upd : ι → α → ι) : ∀ {xs pre : List α} {s0 : ι}, I pre s0 →
    (∀ pre x, ∀ s, x ∈ xs → I pre s → (bnd (lft (gx (g x) ρ)) fun ρ1 => bnd (cond ρ1) fun b => if b = true then step ρ1 s else ret s) = ret (upd s x) ∧ I (pre ++ [x]) (upd s x)) → csW gx cond step ρ (xs.map g) s0 = ret (xs.foldl upd s0)
  | [], pre, s0, _, _ => rfl
  | x :: xs, pre, s0, hi, h => by
    obtain ⟨h1, h2⟩ := h pre x s0 (.head _) hi
    have h3 := csW_fold (step := step) (gx := gx) (cond := cond) (g := g) I upd (xs := xs) (pre := pre ++ [x]) (s0 := upd s0 x) h2 fun p y s hy hp => h p y s (.tail _ hy) hp
    show (bnd (bnd (lft (gx (g x) ρ)) fun ρ1 => bnd (cond ρ1) fun b => if b = true then step ρ1 s0 else ret s0) fun s' => csW gx cond step ρ (xs.map g) s') = _
    rw [h1]
    exact h3
theorem putKs_new [DecidableEq α] {ks : List α} {k : α} (h : k ∉ ks) : putKs ks k = ks ++ [k] := by
  unfold putKs
  rw [if_neg (fun z => h (hasK_iff.mp z))]
theorem putXs_new [DecidableEq α] {ks : List α} {xs : List β} {k : α} {x : β} (h : k ∉ ks) : putXs ks xs k x = xs ++ [x] := by
  unfold putXs
  rw [if_neg (fun z => h (hasK_iff.mp z))]
theorem fold_put [DecidableEq β] (kf : α → β) (vf : α → D) : ∀ (xs : List α) (ks : List β) (ys : List D), (ks ++ xs.map kf).Nodup → xs.foldl (fun s x => (putKs s.1 (kf x), putXs s.1 s.2 (kf x) (vf x))) (ks, ys) = (ks ++ xs.map kf, ys ++ xs.map vf)
  | [], ks, ys, _ => by simp
  | x :: xs, ks, ys, nd => by
    have hx : kf x ∉ ks := by
      intro z
      have := (List.nodup_append.mp nd).2.2 _ z (kf x) (by simp)
      exact this rfl
    rw [List.foldl_cons]
    show xs.foldl _ (putKs ks (kf x), putXs ks ys (kf x) (vf x)) = _
    rw [putKs_new hx, putXs_new hx, fold_put kf vf xs _ _ (by simpa using nd)]
    simp
theorem csW_dic {gx : GX} {cond : En → M Bool} {key val : EX} {g : α → D} {xs : List α} (kf : α → Ky) (vf : α → D) (nd : (xs.map kf).Nodup)
    (h : ∀ x ∈ xs, ∀ s, (bnd (lft (gx (g x) ρ)) fun ρ1 => bnd (cond ρ1) fun b => if b = true then dStep key val ρ1 s else ret s) = ret (putKs s.1 (kf x), putXs s.1 s.2 (kf x) (vf x))) :
    csW gx cond (dStep key val) ρ (xs.map g) ([], []) = ret (xs.map kf, xs.map vf) := by
  rw [csW_fold (fun _ _ => True) (fun s x => (putKs s.1 (kf x), putXs s.1 s.2 (kf x) (vf x))) (pre := []) trivial fun p x s hx _ => ⟨h x hx s, trivial⟩, fold_put kf vf xs [] [] (by simpa using nd)]
  rfl
theorem csW_dct {gx : GX} {cond : En → M Bool} {key val : EX} {g : α → D} {xs : List α} (kf : α → List Ky) (vf : α → D) (nd : (xs.map kf).Nodup)
    (h : ∀ x ∈ xs, ∀ s, (bnd (lft (gx (g x) ρ)) fun ρ1 => bnd (cond ρ1) fun b => if b = true then dStepT key val ρ1 s else ret s) = ret (putKs s.1 (kf x), putXs s.1 s.2 (kf x) (vf x))) :
    csW gx cond (dStepT key val) ρ (xs.map g) ([], []) = ret (xs.map kf, xs.map vf) := by
  rw [csW_fold (fun _ _ => True) (fun s x => (putKs s.1 (kf x), putXs s.1 s.2 (kf x) (vf x))) (pre := []) trivial fun p x s hx _ => ⟨h x hx s, trivial⟩, fold_put kf vf xs [] [] (by simpa using nd)]
  rfl
theorem fold_set [DecidableEq β] (kf : α → β) : ∀ (xs : List α) (ks : List β), (ks ++ xs.map kf).Nodup → xs.foldl (fun s x => putKs s (kf x)) ks = ks ++ xs.map kf
  | [], ks, _ => by simp
  | x :: xs, ks, nd => by
    have hx : kf x ∉ ks := by
      intro z
      have := (List.nodup_append.mp nd).2.2 _ z (kf x) (by simp)
      exact this rfl
    rw [List.foldl_cons, putKs_new hx, fold_set kf xs _ (by simpa using nd)]
    simp
theorem putKs_le' [DecidableEq β] (ks : List β) (k : β) : (putKs ks k).length ≤ ks.length + 1 := by
  unfold putKs
  split
  · omega
  · simp
theorem csW_set {gx : GX} {cond : En → M Bool} {elt : EX} {g : α → D} {xs : List α} (kf : α → Ky) (nd : (xs.map kf).Nodup) (hl : xs.length < 60)
    (h : ∀ x ∈ xs, ∀ s : List Ky, s.length < 60 → (bnd (lft (gx (g x) ρ)) fun ρ1 => bnd (cond ρ1) fun b => if b = true then kStep elt ρ1 s else ret s) = ret (putKs s (kf x))) :
    csW gx cond (kStep elt) ρ (xs.map g) [] = ret (xs.map kf) := by
  have key : ∀ (ys : List α) (s : List Ky), (∀ y ∈ ys, y ∈ xs) → s.length + ys.length < 60 → csW gx cond (kStep elt) ρ (ys.map g) s = ret (ys.foldl (fun s x => putKs s (kf x)) s) := by
    intro ys
    induction ys with
    | nil => intro s _ _; rfl
    | cons y ys ih =>
      intro s hy hs
      rw [List.length_cons] at hs
      show (bnd (bnd (lft (gx (g y) ρ)) fun ρ1 => bnd (cond ρ1) fun b => if b = true then kStep elt ρ1 s else ret s) fun s' => csW gx cond (kStep elt) ρ (ys.map g) s') = _
      rw [h y (hy y (.head _)) s (by omega)]
      show csW gx cond (kStep elt) ρ (ys.map g) (putKs s (kf y)) = _
      rw [ih (putKs s (kf y)) (fun z hz => hy z (.tail _ hz)) (by have := putKs_le' s (kf y); omega)]
      rfl
  rw [key xs [] (fun _ h => h) (by simpa using hl), fold_set kf xs [] (by simpa using nd)]
  rfl
/-- two loops in a comprehension -/
theorem lc2_map {gx : GX} {cond : En → M Bool} {vs1 : List Nat} {it1 : IX} {g1 : GX} {cond1 : En → M Bool} {elt : EX} {g : α → D} (f : α → List D) : ∀ {xs : List α},
    (∀ x ∈ xs, (bnd (lft (gx (g x) ρ)) fun ρ1 => bnd (cond ρ1) fun b => if b = true then bnd (it1 ρ1) fun ds1 => chk (decide (ds1.length ≤ 1000)) (lcW (stepW g1 cond1 elt (wipeS ρ1 vs1)) ds1) else ret []) = ret (f x)) →
    xLc2.go gx cond vs1 it1 g1 cond1 elt (xs.map g) ρ = ret (xs.flatMap f)
  | [], _ => rfl
  | x :: xs, h => by
    show (bnd (bnd (lft (gx (g x) ρ)) fun ρ1 => bnd (cond ρ1) fun b => if b = true then bnd (it1 ρ1) fun ds1 => chk (decide (ds1.length ≤ 1000)) (lcW (stepW g1 cond1 elt (wipeS ρ1 vs1)) ds1) else ret []) fun as => bnd (xLc2.go gx cond vs1 it1 g1 cond1 elt (xs.map g) ρ) fun ys => ret (as ++ ys)) = _
    rw [h x (.head _), lc2_map f fun y hy => h y (.tail _ hy)]
    rfl
end
end Pu
set_option Elab.async false
set_option linter.all false
set_option maxRecDepth 100000
set_option maxHeartbeats 4000000
namespace Pu
section
variable {ρ : En}
/-! ### one statement at a time -/
theorem fn_rt {k : Nat} {b : SX} {ds : List D} {d : D} (h : b (startE k ds) = ret (.rt d)) : fnF k b ds = ret d := by
  show bnd (b (startE k ds)) _ = _
  rw [h]
  rfl
theorem in_nx {c m k : Nat} {b : SX} {ds xs : List D} {ρ : En} (h : b (.ow (.obj c []) :: startE k ds) = ret (.nx (.ow (.obj c xs) :: ρ))) (hl : xs.length = m) : inF c m k b ds = ret (.obj c xs) := by
  show bnd (b (.ow (.obj c []) :: startE k ds)) _ = _
  rw [h]
  show chk (decide (c = c ∧ xs.length = m)) (ret (D.obj c xs)) = _
  rw [decide_eq_true ⟨rfl, hl⟩]
  rfl
theorem seq_nx {f g : SX} {ρ' : En} (h : f ρ = ret (.nx ρ')) : sSeq f g ρ = g ρ' := by
  show bnd (f ρ) _ = _
  rw [h]
  rfl
theorem seq_rt {f g : SX} {d : D} (h : f ρ = ret (.rt d)) : sSeq f g ρ = ret (.rt d) := by
  show bnd (f ρ) _ = _
  rw [h]
  rfl
theorem if_t {t : En → M Bool} {a b : SX} (h : t ρ = ret true) : sIf t a b ρ = a ρ := by
  show bnd (t ρ) _ = _
  rw [h]
  rfl
theorem if_f {t : En → M Bool} {a b : SX} (h : t ρ = ret false) : sIf t a b ρ = b ρ := by
  show bnd (t ρ) _ = _
  rw [h]
  rfl
/-- an if whose test fails and that has no else -/
theorem seq_iff {t : En → M Bool} {a g : SX} (h : t ρ = ret false) : sSeq (sIf t a sNil) g ρ = g ρ := seq_nx (if_f h)
theorem seq_ift {t : En → M Bool} {a b g : SX} (h : t ρ = ret true) : sSeq (sIf t a b) g ρ = sSeq a g ρ := by
  show bnd (bnd (t ρ) _) _ = _
  rw [h]
  rfl
theorem seq_ife {t : En → M Bool} {a b g : SX} (h : t ρ = ret false) : sSeq (sIf t a b) g ρ = sSeq b g ρ := by
  show bnd (bnd (t ρ) _) _ = _
  rw [h]
  rfl
theorem set_nx {i : Nat} {e : EX} (d : D) (hn : noOb ρ[i]? = true) (h : e ρ = ret d) : sSet i e ρ = ret (.nx (ρ.set i (.fz d))) := by
  show chk (noOb ρ[i]?) (bnd (e ρ) _) = _
  rw [hn, h]
  rfl
theorem own_nx {i : Nat} {e : EX} (d : D) (hn : noOb ρ[i]? = true) (h : e ρ = ret d) : sOwn i e ρ = ret (.nx (ρ.set i (.ow d))) := by
  show chk (noOb ρ[i]?) (bnd (e ρ) _) = _
  rw [hn, h]
  rfl
theorem seq_set {i : Nat} {e : EX} {g : SX} (d : D) (hn : noOb ρ[i]? = true) (h : e ρ = ret d) : sSeq (sSet i e) g ρ = g (ρ.set i (.fz d)) := seq_nx (set_nx d hn h)
theorem seq_own {i : Nat} {e : EX} {g : SX} (d : D) (hn : noOb ρ[i]? = true) (h : e ρ = ret d) : sSeq (sOwn i e) g ρ = g (ρ.set i (.ow d)) := seq_nx (own_nx d hn h)
theorem ret_rt {e : EX} {d : D} (h : e ρ = ret d) : sRet e ρ = ret (.rt d) := by
  show bnd (e ρ) _ = _
  rw [h]
  rfl
theorem seq_expr {e : EX} {g : SX} (d : D) (h : e ρ = ret d) : sSeq (sExpr e) g ρ = g ρ := by
  show bnd (bnd (e ρ) _) _ = _
  rw [h]
  rfl
theorem asg_nx {gx : GX} {e : EX} {ρ' : En} (d : D) (h : e ρ = ret d) (hg : gx d ρ = some ρ') : sAsg gx e ρ = ret (.nx ρ') := by
  show bnd (e ρ) _ = _
  rw [h]
  show bnd (lft (gx d ρ)) _ = _
  rw [hg]
  rfl
theorem seq_asg {gx : GX} {e : EX} {g : SX} {ρ' : En} (d : D) (h : e ρ = ret d) (hg : gx d ρ = some ρ') : sSeq (sAsg gx e) g ρ = g ρ' := seq_nx (asg_nx d h hg)
theorem fld_nx {c k : Nat} {e : EX} {xs : List D} (d : D) (h : e (.ow (.obj c xs) :: ρ) = ret d) (hk : xs.length = k) : sFldN 0 c k e (.ow (.obj c xs) :: ρ) = ret (.nx (.ow (.obj c (xs ++ [d])) :: ρ)) := by
  show bnd (e (.ow (.obj c xs) :: ρ)) _ = _
  rw [h]
  show chk (decide (c = c ∧ xs.length = k)) _ = _
  rw [decide_eq_true ⟨rfl, hk⟩]
  rfl
theorem seq_fld {c k : Nat} {e : EX} {g : SX} {xs : List D} (d : D) (h : e (.ow (.obj c xs) :: ρ) = ret d) (hk : xs.length = k) : sSeq (sFldN 0 c k e) g (.ow (.obj c xs) :: ρ) = g (.ow (.obj c (xs ++ [d])) :: ρ) := seq_nx (fld_nx d h hk)
/-- an expression over a comprehension -/
theorem lc_ret {vs : List Nat} {it : IX} {g : GX} {cond : En → M Bool} {elt : EX} {ds ys : List D} (h1 : it ρ = ret ds) (h2 : lcW (stepW g cond elt (wipeS ρ vs)) ds = ret ys) : xLc vs it g cond elt ρ = ret (.lst ys) := by
  show bnd (it ρ) _ = _
  rw [h1]
  show bnd (lcW (stepW g cond elt (wipeS ρ vs)) ds) _ = _
  rw [h2]
  rfl
theorem un_ret {op : D → Option D} {a : EX} {r : D} (d : D) (h1 : a ρ = ret d) (h2 : op d = some r) : xUn op a ρ = ret r := by
  show bnd (a ρ) _ = _
  rw [h1]
  show lft (op d) = _
  rw [h2]
  rfl
theorem bin_ret {op : D → D → Option D} {a b : EX} {r : D} (x y : D) (h1 : a ρ = ret x) (h2 : b ρ = ret y) (h3 : op x y = some r) : xBin op a b ρ = ret r := by
  show bnd (a ρ) _ = _
  rw [h1]
  show bnd (b ρ) _ = _
  rw [h2]
  show lft (op x y) = _
  rw [h3]
  rfl
theorem tb_ret {a : EX} {b : Bool} (h : a ρ = ret (.bl b)) : xTb a ρ = ret b := by
  show bnd (a ρ) _ = _
  rw [h]
  rfl
theorem tr_ret {a : EX} {b : Bool} (h : a ρ = ret (.bl b)) : xTr a ρ = ret b := by
  show bnd (a ρ) _ = _
  rw [h]
  rfl
theorem not_ret {t : En → M Bool} {b : Bool} (h : t ρ = ret b) : xNot t ρ = ret (!b) := by
  show bnd (t ρ) _ = _
  rw [h]
  rfl
theorem or_f {t u : En → M Bool} {b : Bool} (h : t ρ = ret false) (h2 : u ρ = ret b) : xOr t u ρ = ret b := by
  show bnd (t ρ) _ = _
  rw [h]
  exact h2
theorem and_t {t u : En → M Bool} {b : Bool} (h : t ρ = ret true) (h2 : u ρ = ret b) : xAnd t u ρ = ret b := by
  show bnd (t ρ) _ = _
  rw [h]
  exact h2
theorem and_f {t u : En → M Bool} (h : t ρ = ret false) : xAnd t u ρ = ret false := by
  show bnd (t ρ) _ = _
  rw [h]
  rfl
theorem or_t {t u : En → M Bool} (h : t ρ = ret true) : xOr t u ρ = ret true := by
  show bnd (t ρ) _ = _
  rw [h]
  rfl
end
end Pu
set_option Elab.async false
set_option linter.all false
set_option maxRecDepth 100000
set_option maxHeartbeats 4000000
namespace Pu
/-! ### while, turn by turn -/
inductive Wh (t : En → M Bool) (b : SX) : Nat → En → En → Prop
  | done {ρ : En} : t ρ = ret false → Wh t b 0 ρ ρ
  | step {k : Nat} {ρ ρ1 ρ' : En} : t ρ = ret true → b ρ = ret (.nx ρ1) → Wh t b k ρ1 ρ' → Wh t b (k + 1) ρ ρ'
theorem Wh.eq {t : En → M Bool} {b : SX} {k : Nat} {ρ ρ' : En} (w : Wh t b k ρ ρ') : sWhile t b ρ = ret (.nx ρ') := by
  funext n Q E
  refine propext ⟨?_, fun hq => ⟨fun m r j => Wh t b m r ρ' ∧ j = n, ⟨k, w, rfl⟩, fun m r j ⟨hw, hj⟩ => ?_⟩⟩
  · rintro ⟨I, h0, h⟩
    show Q (.nx ρ') n
    induction w with
    | done ht =>
      obtain ⟨m, h0⟩ := h0
      have := h m _ n h0
      rw [ht] at this
      exact this
    | step ht hb _ ih =>
      obtain ⟨m, h0⟩ := h0
      have h1 := h m _ n h0
      rw [ht] at h1
      have h2 : b _ n _ E := h1
      rw [hb] at h2
      obtain ⟨m', _, h3⟩ := h2
      exact ih ⟨m', h3⟩
  · subst hj
    cases hw with
    | done ht =>
      rw [ht]
      exact hq
    | step ht hb hw =>
      rw [ht]
      show b r j _ E
      rw [hb]
      exact ⟨_, Nat.lt_succ_self _, hw, rfl⟩
end Pu
set_option Elab.async false
set_option linter.all false
set_option maxRecDepth 100000
set_option maxHeartbeats 4000000
namespace Pu
/-! ### Hs m c P: m answers what is P, by at most c draws -/
def Hs {α : Type} (m : M α) (c : Nat) (P : α → Prop) : Prop := ∀ n Q E, n + c ≤ 1000000 → (∀ a n', n' ≤ n + c → P a → Q a n') → m n Q E
section
variable {α β : Type} {c d e : Nat}
theorem Hs.ret {a : α} {P : α → Prop} (h : P a) : Hs (ret a) c P := fun n Q E _ q => q a n (by omega) h
theorem Hs.eq {m : M α} {a : α} {P : α → Prop} (e : m = Pu.ret a) (h : P a) : Hs m c P := by rw [e]; exact Hs.ret h
theorem Hs.bnd {m : M α} {f : α → M β} {P : α → Prop} {R : β → Prop} (h1 : Hs m c P) (h2 : ∀ a, P a → Hs (f a) d R) (he : c + d ≤ e := by omega) : Hs (Pu.bnd m f) e R := fun n Q E hn q =>
  h1 n _ E (by omega) fun a n' hn' hp => h2 a hp n' Q E (by omega) fun b n2 hn2 hr => q b n2 (by omega) hr
theorem Hs.mono {m : M α} {P R : α → Prop} (h : Hs m c P) (hp : ∀ a, P a → R a) (hc : c ≤ d := by omega) : Hs m d R := fun n Q E hn q => h n Q E (by omega) fun a n' hn' hp' => q a n' (by omega) (hp a hp')
theorem Hs.lft {o : Option α} {a : α} {P : α → Prop} (e : o = some a) (h : P a) : Hs (lft o) c P := by rw [e]; exact Hs.ret h
theorem Hs.draw {m : Int} (h0 : 0 < m) (h1 : m < 2 ^ 1000) : Hs (drawF [.feed, .int m]) 1 (fun d => ∃ r : Nat, (r : Int) < m ∧ d = .int r) := fun n Q E hn q =>
  ⟨m, rfl, h0, h1, by omega, fun r hr => q _ (n + 1) (by omega) ⟨r, hr, rfl⟩⟩
theorem Hs.ite {p : Prop} [Decidable p] {a b : M α} {P : α → Prop} (h1 : p → Hs a c P) (h2 : ¬ p → Hs b c P) : Hs (if p then a else b) c P := by
  by_cases h : p
  · rw [if_pos h]; exact h1 h
  · rw [if_neg h]; exact h2 h
theorem Hs.seq {f g : SX} {ρ : En} {P : En → Prop} {R : Ct → Prop} (h1 : Hs (f ρ) c (fun ct => ∃ ρ', ct = .nx ρ' ∧ P ρ')) (h2 : ∀ ρ', P ρ' → Hs (g ρ') d R) (he : c + d ≤ e := by omega) : Hs (sSeq f g ρ) e R :=
  Hs.bnd h1 (fun ct ⟨ρ', e1, hp⟩ => by subst e1; exact h2 ρ' hp) he
/-- .. or a return -/
theorem Hs.seqR {f g : SX} {ρ : En} {P : En → Prop} {R : D → Prop} {R' : Ct → Prop} (h1 : Hs (f ρ) c (fun ct => (∃ ρ', ct = .nx ρ' ∧ P ρ') ∨ ∃ d, ct = .rt d ∧ R d)) (h2 : ∀ ρ', P ρ' → Hs (g ρ') d R') (h3 : ∀ d, R d → R' (.rt d)) (he : c + d ≤ e := by omega) : Hs (sSeq f g ρ) e R' :=
  Hs.bnd h1 (fun ct h => by
    rcases h with ⟨ρ', e1, hp⟩ | ⟨d, e1, hr⟩
    · subst e1; exact h2 ρ' hp
    · subst e1; exact Hs.ret (h3 d hr)) he
theorem Hs.seqE {f g : SX} {ρ ρ' : En} {R : Ct → Prop} (e : f ρ = Pu.ret (.nx ρ')) (h : Hs (g ρ') c R) : Hs (sSeq f g ρ) c R := by rw [seq_nx e]; exact h
theorem Hs.set {i : Nat} {f : EX} {ρ : En} {P : D → Prop} (hn : noOb ρ[i]? = true) (h : Hs (f ρ) c P) : Hs (sSet i f ρ) c (fun ct => ∃ ρ', ct = .nx ρ' ∧ ∃ d, P d ∧ ρ' = ρ.set i (.fz d)) := by
  show Hs (chk (noOb ρ[i]?) _) _ _
  rw [hn, chk_t]
  exact Hs.bnd (d := 0) h (fun d hp => Hs.ret ⟨_, rfl, d, hp, rfl⟩)
/-- x = e; rest -/
theorem Hs.sset {i : Nat} {f : EX} {g : SX} {ρ : En} {P : D → Prop} {R : Ct → Prop} (hn : noOb ρ[i]? = true) (h : Hs (f ρ) c P) (h2 : ∀ d', P d' → Hs (g (ρ.set i (.fz d'))) d R) (he : c + d ≤ e := by omega) : Hs (sSeq (sSet i f) g ρ) e R :=
  Hs.seq (Hs.set hn h) (fun ρ' ⟨d', hp, e1⟩ => by subst e1; exact h2 d' hp) he
theorem Hs.fn {k : Nat} {b : SX} {ds : List D} {P : D → Prop} (h : Hs (b (startE k ds)) c (fun ct => ∃ d, ct = .rt d ∧ P d)) : Hs (fnF k b ds) c P :=
  Hs.bnd (d := 0) h (fun ct ⟨d, e1, hp⟩ => by subst e1; exact Hs.ret hp)
theorem Hs.rt {f : EX} {ρ : En} {P : D → Prop} (h : Hs (f ρ) c P) : Hs (sRet f ρ) c (fun ct => ∃ d, ct = .rt d ∧ P d) := Hs.bnd (d := 0) h (fun d hp => Hs.ret ⟨d, rfl, hp⟩)
theorem Hs.lc {step : D → M (Option D)} {g : α → D} {P : α → D → Prop} : ∀ {xs : List α}, (∀ x ∈ xs, Hs (step (g x)) c (fun o => ∃ y, o = some y ∧ P x y)) → Hs (lcW step (xs.map g)) (xs.length * c) (fun ys => ys.length = xs.length ∧ ∀ (i : Nat) (x : α), xs[i]? = some x → ∃ y, ys[i]? = some y ∧ P x y)
  | [], _ => Hs.ret ⟨rfl, fun i x h => by simp at h⟩
  | x :: xs, h => by
    show Hs (Pu.bnd (step (g x)) fun o => Pu.bnd (lcW step (xs.map g)) fun ys => Pu.ret (o.toList ++ ys)) _ _
    refine Hs.bnd (d := xs.length * c) (h x (.head _)) (fun o ⟨y, e1, hp⟩ => ?_) (by rw [List.length_cons, Nat.add_mul]; omega)
    subst e1
    refine Hs.bnd (d := 0) (Hs.lc (xs := xs) fun z hz => h z (.tail _ hz)) fun ys ⟨hl, hy⟩ => Hs.ret ⟨by simp [hl], fun i z hz => ?_⟩
    cases i with
    | zero =>
      simp at hz
      subst hz
      exact ⟨y, rfl, hp⟩
    | succ i =>
      obtain ⟨u, hu, hpu⟩ := hy i z (by simpa using hz)
      exact ⟨u, by simpa using hu, hpu⟩
theorem Hs.forW {g : GX} {b : SX} {xs : List D} (I : Nat → En → Prop) {R : D → Prop} (step : ∀ (i : Nat) (x : D) (ρ : En), xs[i]? = some x → I i ρ → ∃ ρ1, g x ρ = some ρ1 ∧ Hs (b ρ1) c (fun ct => (∃ ρ2, (ct = .nx ρ2 ∨ ct = .ct ρ2) ∧ I (i + 1) ρ2) ∨ ∃ d, ct = .rt d ∧ R d)) :
    ∀ (k : Nat) (ρ : En), k ≤ xs.length → I k ρ → Hs (forW g b (xs.drop k) ρ) ((xs.length - k) * c) (fun ct => (∃ ρ', ct = .nx ρ' ∧ I xs.length ρ') ∨ ∃ d, ct = .rt d ∧ R d) := by
  intro k
  have main : ∀ (m k : Nat) (ρ : En), xs.length - k = m → k ≤ xs.length → I k ρ → Hs (Pu.forW g b (xs.drop k) ρ) (m * c) (fun ct => (∃ ρ', ct = .nx ρ' ∧ I xs.length ρ') ∨ ∃ d, ct = .rt d ∧ R d) := by
    intro m
    induction m with
    | zero =>
      intro k ρ hm hk hi
      have e : k = xs.length := by omega
      subst e
      rw [List.drop_length]
      exact Hs.ret (.inl ⟨ρ, rfl, hi⟩)
    | succ m ih =>
      intro k ρ hm hk hi
      have hlt : k < xs.length := by omega
      rw [List.drop_eq_getElem_cons hlt]
      obtain ⟨ρ1, e1, h1⟩ := step k xs[k] ρ (List.getElem?_eq_getElem hlt) hi
      show Hs (Pu.bnd (Pu.lft (g xs[k] ρ)) fun ρ1 => Pu.bnd (b ρ1) fun ct => match ct with
        | .nx ρ2 => Pu.forW g b (xs.drop (k + 1)) ρ2
        | .ct ρ2 => Pu.forW g b (xs.drop (k + 1)) ρ2
        | .bk ρ2 => Pu.ret (.nx ρ2)
        | .rt d => Pu.ret (.rt d)) _ _
      rw [e1]
      show Hs (Pu.bnd (b ρ1) _) _ _
      refine Hs.bnd (d := m * c) h1 (fun ct h => ?_) (by rw [Nat.add_mul]; omega)
      rcases h with ⟨ρ2, h2 | h2, hi2⟩ | ⟨d, h2, hr⟩
      · subst h2
        exact ih (k + 1) ρ2 (by omega) hlt hi2
      · subst h2
        exact ih (k + 1) ρ2 (by omega) hlt hi2
      · subst h2
        exact Hs.ret (.inr ⟨d, rfl, hr⟩)
  intro ρ hk hi
  exact main _ k ρ rfl hk hi
theorem Hs.law {k : Nat} {b : SX} (h : Hs (b (.no :: .fz .feed :: List.replicate (k - 2) .no)) 1000000 (fun ct => ct = .rt (.bl true))) : lawF k b :=
  h 0 isTrue NoX (by omega) fun ct n _ e => by subst e; exact rfl
end
end Pu
set_option Elab.async false
set_option linter.all false
set_option maxRecDepth 100000
set_option maxHeartbeats 4000000
namespace Pu
/-- a loop over range(m) -/
theorem Hs.forR {c : Nat} {it : IX} {g : GX} {b : SX} {ρ : En} (m : Nat) (I : Nat → En → Prop) {R : D → Prop} {d : Nat} (hx : it ρ = Pu.ret ((List.range m).map fun i => .int (i : Nat))) (h0 : I 0 ρ)
    (step : ∀ (i : Nat) (ρ : En), i < m → I i ρ → ∃ ρ1, g (.int i) ρ = some ρ1 ∧ Hs (b ρ1) c (fun ct => (∃ ρ2, (ct = .nx ρ2 ∨ ct = .ct ρ2) ∧ I (i + 1) ρ2) ∨ ∃ d, ct = .rt d ∧ R d)) (hd : m * c ≤ d) :
    Hs (sFor it g b ρ) d (fun ct => (∃ ρ', ct = .nx ρ' ∧ I m ρ') ∨ ∃ d, ct = .rt d ∧ R d) := by
  have h1 := Hs.forW (c := c) (xs := (List.range m).map fun i => D.int (i : Nat)) (g := g) (R := R) (b := b) I (fun i x ρ hx hi => by
    obtain ⟨hj, he⟩ := List.getElem?_eq_some_iff.mp hx
    have hj' : i < m := by simpa using hj
    have : x = .int (i : Nat) := by rw [← he]; simp
    subst this
    exact step i ρ hj' hi) 0 ρ (Nat.zero_le _) h0
  show Hs (Pu.bnd (it ρ) fun ds => Pu.forW g b ds ρ) _ _
  rw [hx]
  rw [List.length_map, List.length_range, Nat.sub_zero] at h1
  exact Hs.mono h1 (fun _ h => h) hd
/-- .. over a list -/
theorem Hs.forL {α : Type} {c : Nat} {it : IX} {g : GX} {b : SX} {ρ : En} (xs : List α) (f : α → D) (I : Nat → En → Prop) {R : D → Prop} {d : Nat} (hx : it ρ = Pu.ret (xs.map f)) (h0 : I 0 ρ)
    (step : ∀ (i : Nat) (x : α) (ρ : En), xs[i]? = some x → I i ρ → ∃ ρ1, g (f x) ρ = some ρ1 ∧ Hs (b ρ1) c (fun ct => (∃ ρ2, (ct = .nx ρ2 ∨ ct = .ct ρ2) ∧ I (i + 1) ρ2) ∨ ∃ d, ct = .rt d ∧ R d)) (hd : xs.length * c ≤ d) :
    Hs (sFor it g b ρ) d (fun ct => (∃ ρ', ct = .nx ρ' ∧ I xs.length ρ') ∨ ∃ d, ct = .rt d ∧ R d) := by
  have h1 := Hs.forW (c := c) (xs := xs.map f) (g := g) (R := R) (b := b) I (fun i x ρ hx hi => by
    rw [List.getElem?_map] at hx
    obtain ⟨y, hy, rfl⟩ := Option.map_eq_some_iff.mp hx
    exact step i y ρ hy hi) 0 ρ (Nat.zero_le _) h0
  show Hs (Pu.bnd (it ρ) fun ds => Pu.forW g b ds ρ) _ _
  rw [hx]
  rw [List.length_map, Nat.sub_zero] at h1
  exact Hs.mono h1 (fun _ h => h) hd
end Pu
set_option Elab.async false
set_option linter.all false
set_option maxRecDepth 100000
set_option maxHeartbeats 4000000
namespace Mg
open Pu Pg
theorem e_is_whole (i a b : Int) : F_is_whole [.int i, .int a, .int b] = ret (.bl (decide (a ≤ i ∧ i ≤ b))) := by
  unfold F_is_whole
  by_cases h1 : a ≤ i <;> by_cases h2 : i ≤ b <;> simp [h1, h2]
theorem e_is_text_of (s L : List Nat) (a b : Int) (hs : s.length ≤ bigN) : F_is_text_of [.str s, .str L, .int a, .int b] = ret (.bl (decide (a ≤ s.length ∧ s.length ≤ b) && s.all (fun c => decide (c ∈ L)))) := by
  unfold F_is_text_of
  by_cases h1 : a ≤ s.length <;> by_cases h2 : (s.length : Int) ≤ b <;> simp [h1, h2, hs]
  rw [lcW_map (f := fun c => .bl (decide (c ∈ L)))]
  · simp [allD_of]
  · simp
abbrev abc : List Nat := [97, 98, 99, 100, 101, 102, 103, 104, 105, 106, 107, 108, 109, 110, 111, 112, 113, 114, 115, 116, 117, 118, 119, 120, 121, 122]
theorem big_of {n : Nat} (h : n ≤ 1000) : n ≤ bigN := Nat.le_trans h (by decide)
theorem all_of {s L : List Nat} (h : ∀ c ∈ s, c ∈ L) : s.all (fun c => decide (c ∈ L)) = true := List.all_eq_true.mpr fun c hc => decide_eq_true (h c hc)
theorem allD_yes {α : Type} (xs : List α) : allD (.lst (xs.map fun _ => D.bl true)) = some (.bl true) := by
  rw [allD_of]
  congr 2
  exact List.all_eq_true.mpr fun _ _ => rfl
/-- the text is one of these letters, so long -/
theorem e_text_yes {s L : List Nat} {a b : Int} (h1 : a ≤ s.length) (h2 : (s.length : Int) ≤ b) (hs : s.length ≤ 1000) (hL : ∀ c ∈ s, c ∈ L) : F_is_text_of [.str s, .str L, .int a, .int b] = ret (.bl true) := by
  rw [e_is_text_of s L a b (big_of hs), all_of hL, decide_eq_true ⟨h1, h2⟩]
  rfl
/-- a name -/
structure NmOk (s : List Nat) : Prop where
  lo : 1 ≤ s.length
  hi : s.length ≤ 8
  abc : ∀ c ∈ s, c ∈ Mg.abc
theorem NmOk.big {s : List Nat} (h : NmOk s) : s.length ≤ bigN := big_of (by have := h.hi; omega)
theorem e_is_name {s : List Nat} (h : NmOk s) : F_is_name [.str s] = ret (.bl true) := by
  have h1 := h.lo
  have h2 := h.hi
  have e : F_is_text_of [.str s, c_LETTERS, .int 1, c_LONGEST_NAME] = ret (.bl true) := e_text_yes (by omega) (by omega) (by omega) h.abc
  unfold F_is_name
  simp [e]
/-- signs -/
structure SgOk (s : List Nat) : Prop where
  lo : 2 ≤ s.length
  hi : s.length ≤ 4
  abc : ∀ c ∈ s, c ∈ Mg.abc
  up : s.Pairwise (· < ·)
theorem SgOk.big {s : List Nat} (h : SgOk s) : s.length ≤ bigN := big_of (by have := h.hi; omega)
theorem cut1 {α : Type} (xs : List α) : cutD xs (some 1) none = xs.drop 1 := by
  unfold cutD HT.sIx
  cases xs with
  | nil => rfl
  | cons x xs =>
    simp
theorem zipD_map {α β : Type} (f : α → D) (g : β → D) : ∀ (xs : List α) (ys : List β), zipD (xs.map f) (ys.map g) = (xs.zip ys).map fun p => .tup [f p.1, g p.2]
  | [], _ => rfl
  | x :: xs, [] => rfl
  | x :: xs, y :: ys => by
    have := zipD_map f g xs ys
    unfold zipD at this ⊢
    simp [this]
theorem up_zip : ∀ {s : List Nat}, s.Pairwise (· < ·) → ∀ p ∈ s.zip s.tail, p.1 < p.2
  | [], _, p, hp => by simp at hp
  | [a], _, p, hp => by simp at hp
  | a :: b :: r, h, p, hp => by
    rw [List.pairwise_cons] at h
    have hp' : p = (a, b) ∨ p ∈ (b :: r).zip (b :: r).tail := by simpa using hp
    rcases hp' with rfl | hp'
    · exact h.1 b (.head _)
    · exact up_zip h.2 p hp'
theorem e_are_signs {s : List Nat} (h : SgOk s) : F_are_signs [.str s] = ret (.bl true) := by
  have h1 := h.lo
  have h2 := h.hi
  have e : F_is_text_of [.str s, c_LETTERS, .int 2, c_MOST_SIGNS] = ret (.bl true) := e_text_yes (by omega) (by omega) (by omega) h.abc
  unfold F_are_signs F_are_rising
  have hb := h.big
  have ht : s.length - 1 ≤ bigN := by omega
  simp [c_LEAST_SIGNS, e, hb, ht, slD, cut1]
  rw [← List.map_tail, zipD_map, lcW_map (f := fun p => .bl (decide ([p.1] < [p.2])))]
  · simp [allD_of]
    have : ((s.zip s.tail).all fun x => decide ([x.1] < [x.2])) = true := List.all_eq_true.mpr fun p hp => decide_eq_true (by
      exact List.Lex.rel (up_zip h.up p hp))
    rw [this]
  · rintro ⟨a, b⟩ _
    simp
theorem e_is_place {s : List Nat} {k : Int} (h : NmOk s) (hk : 0 ≤ k) : F_is_place [.tup [.str s, .int k]] = ret (.bl true) := by
  unfold F_is_place
  simp [e_is_name h, hk]
theorem e_is_press_place {s : List Nat} {k : Int} (h : NmOk s) (hk : 0 ≤ k) (h12 : k < 12) : F_is_press_place [.tup [.str s, .int k]] = ret (.bl true) := by
  unfold F_is_press_place
  simp [e_is_place h hk, c_LONG, h12]
/-- a rhythm -/
structure RhOk (s : List Nat) : Prop where
  lo : 1 ≤ s.length
  hi : s.length ≤ 6
  xm : ∀ c ∈ s, c = 120 ∨ c = 45
theorem RhOk.big {s : List Nat} (h : RhOk s) : s.length ≤ bigN := big_of (by have := h.hi; omega)
theorem e_is_rhythm {s : List Nat} (h : RhOk s) : F_is_rhythm [.str s] = ret (.bl true) := by
  have h1 := h.lo
  have h2 := h.hi
  have e : F_is_text_of [.str s, c_MARKS, .int 1, c_LONGEST_RHYTHM] = ret (.bl true) := e_text_yes (by omega) (by omega) (by omega) (fun c hc => by rcases h.xm c hc with rfl | rfl <;> decide)
  unfold F_is_rhythm
  simp [e]
/-- a table of n signs: rows of letters of S -/
structure TbOk (t : List (List Nat)) (n : Nat) (S : List Nat) : Prop where
  len : t.length = n
  lo : 2 ≤ n
  hi : n ≤ 4
  row : ∀ r ∈ t, r.length = n
  sg : ∀ r ∈ t, ∀ c ∈ r, c ∈ S
def tabD (t : List (List Nat)) : D := .tup (t.map .str)
theorem e_is_table {t : List (List Nat)} {n : Nat} {S : List Nat} (h : TbOk t n S) (hS : ∀ c ∈ S, c ∈ abc) : F_is_table [tabD t] = ret (.bl true) := by
  have h1 := h.lo
  have h2 := h.hi
  have h3 := h.len
  unfold F_is_table tabD
  have h1' : (2 : Int) ≤ n := by omega
  have h2' : (n : Int) ≤ 4 := by omega
  simp [c_LEAST_SIGNS, c_MOST_SIGNS, h3, h1', h2']
  rw [lcW_map (f := fun p => .bl true)]
  · simp [allD_yes]
  · intro r hr
    have e : F_is_text_of [.str r, c_LETTERS, .int n, .int n] = ret (.bl true) := e_text_yes (by rw [h.row r hr]; omega) (by rw [h.row r hr]; omega) (by rw [h.row r hr]; omega) (fun c hc => hS c (h.sg r hr c hc))
    simp [e, h3]
end Mg
set_option Elab.async false
set_option linter.all false
set_option maxRecDepth 100000
set_option maxHeartbeats 4000000
namespace Mg
open Pu Pg
/-! ### bands, presses, works as data -/
structure Bd where
  nm : List Nat
  wide : Nat
  pace : Int
structure BdOk (b : Bd) : Prop where
  nm : NmOk b.nm
  lo : 1 ≤ b.wide
  hi : b.wide ≤ 12
  p0 : -1000000000000 ≤ b.pace
  p1 : b.pace ≤ 1000000000000
def bandD (b : Bd) : D := .obj 0 [.str b.nm, .int b.wide, .int b.pace]
abbrev Pl := List Nat × Nat
def placeD (p : Pl) : D := .tup [.str p.1, .int p.2]
structure Ps where
  up : Pl
  low : Pl
  tab : List (List Nat)
  bar : List Nat
def pressD (p : Ps) : D := .obj 1 [placeD p.up, placeD p.low, tabD p.tab, .str p.bar]
structure Wk where
  sg : List Nat
  bands : List Bd
  press : List Ps
def Wk.spots (w : Wk) : List Pl := w.bands.flatMap fun b => (List.range b.wide).map fun k => (b.nm, k)
structure WkOk (w : Wk) : Prop where
  sg : SgOk w.sg
  lo : 1 ≤ w.bands.length
  hi : w.bands.length ≤ 6
  bd : ∀ b ∈ w.bands, BdOk b
  nd : (w.bands.map (·.nm)).Nodup
  sum : (w.bands.map (·.wide)).sum ≤ 40
  pr : w.press.length ≤ 8
  up : ∀ p ∈ w.press, p.up ∈ w.spots
  low : ∀ p ∈ w.press, p.low ∈ w.spots
  tab : ∀ p ∈ w.press, TbOk p.tab w.sg.length w.sg
  bar : ∀ p ∈ w.press, RhOk p.bar
def keyP (p : Pl) : List Ky := [.inr p.1, .inl p.2]
def workD (w : Wk) : D := .obj 2 [.str w.sg, .tup (w.bands.map bandD), .tup (w.press.map pressD), .lst (w.spots.map placeD), .dct (w.spots.map keyP) ((List.range w.spots.length).map fun (i : Nat) => .int i)]
@[simp] theorem m_band (F : FX) (b : Bd) (m : M (List D)) : mcall 0 F (bandD b) m = bnd m fun ds => F (bandD b :: ds) := eqo rfl
@[simp] theorem m_press (F : FX) (b : Ps) (m : M (List D)) : mcall 1 F (pressD b) m = bnd m fun ds => F (pressD b :: ds) := eqo rfl
@[simp] theorem m_work (F : FX) (b : Wk) (m : M (List D)) : mcall 2 F (workD b) m = bnd m fun ds => F (workD b :: ds) := eqo rfl
@[simp] theorem isi_band (b : Bd) : isiC 0 (bandD b) = some (.bl true) := eqo rfl
@[simp] theorem isi_press (b : Ps) : isiC 1 (pressD b) = some (.bl true) := eqo rfl
@[simp] theorem isi_work (b : Wk) : isiC 2 (workD b) = some (.bl true) := eqo rfl
@[simp] theorem ix_pl0 (p : Pl) : idxD (placeD p) (.int 0) = some (.str p.1) := idx_t0 _ _
@[simp] theorem ix_pl1 (p : Pl) : idxD (placeD p) (.int 1) = some (.int p.2) := idx_t1 _ _ _
@[simp] theorem it_tab (t : List (List Nat)) : iterD (tabD t) = some (t.map .str) := eqo rfl
@[simp] theorem len_tab (t : List (List Nat)) : lenD (tabD t) = some (.int t.length) := by
  show some (D.int ((t.map D.str).length : Nat)) = _
  rw [List.length_map]
@[simp] theorem w_f0 (w : Wk) : fldD 2 0 (workD w) = some (.str w.sg) := eqo rfl
@[simp] theorem w_f1 (w : Wk) : fldD 2 1 (workD w) = some (.tup (w.bands.map bandD)) := eqo rfl
@[simp] theorem w_f2 (w : Wk) : fldD 2 2 (workD w) = some (.tup (w.press.map pressD)) := eqo rfl
@[simp] theorem w_f3 (w : Wk) : fldD 2 3 (workD w) = some (.lst (w.spots.map placeD)) := eqo rfl
@[simp] theorem w_f4 (w : Wk) : fldD 2 4 (workD w) = some (.dct (w.spots.map keyP) ((List.range w.spots.length).map fun (i : Nat) => .int i)) := eqo rfl
@[simp] theorem p_f0 (p : Ps) : fldD 1 0 (pressD p) = some (placeD p.up) := eqo rfl
@[simp] theorem p_f1 (p : Ps) : fldD 1 1 (pressD p) = some (placeD p.low) := eqo rfl
@[simp] theorem p_f2 (p : Ps) : fldD 1 2 (pressD p) = some (tabD p.tab) := eqo rfl
@[simp] theorem p_f3 (p : Ps) : fldD 1 3 (pressD p) = some (.str p.bar) := eqo rfl
@[simp] theorem e_called (b : Bd) : F_Band_called [bandD b] = ret (.str b.nm) := eqo rfl
@[simp] theorem e_long (b : Bd) : F_Band_long [bandD b] = ret (.int b.wide) := eqo rfl
@[simp] theorem e_pace (b : Bd) : F_Band_pace [bandD b] = ret (.int b.pace) := eqo rfl
@[simp] theorem e_above (p : Ps) : F_Press_above [pressD p] = ret (placeD p.up) := eqo rfl
@[simp] theorem e_below (p : Ps) : F_Press_below [pressD p] = ret (placeD p.low) := eqo rfl
@[simp] theorem e_table (p : Ps) : F_Press_table [pressD p] = ret (tabD p.tab) := eqo rfl
@[simp] theorem e_rhythm (p : Ps) : F_Press_rhythm [pressD p] = ret (.str p.bar) := eqo rfl
@[simp] theorem e_presses (w : Wk) : F_Work_presses [workD w] = ret (.lst (w.press.map pressD)) := eqo rfl
theorem e_Band {b : Bd} (h : BdOk b) : F_Band___init__ [.str b.nm, .int b.wide, .int b.pace] = ret (bandD b) := by
  have h1 := h.lo
  have h2 := h.hi
  have h3 := h.p0
  have h4 := h.p1
  have e1 : F_is_whole [.int b.wide, .int 1, c_LONG] = ret (.bl true) := by
    rw [show c_LONG = .int 12 from rfl, e_is_whole, decide_eq_true (by omega)]
  have e2 : F_is_whole [.int b.pace, .int (-1000000000000), c_FAR] = ret (.bl true) := by
    rw [show c_FAR = .int 1000000000000 from rfl, e_is_whole, decide_eq_true (by omega)]
  unfold F_Band___init__
  have ec : c_FAR = .int 1000000000000 := rfl
  rw [ec] at e2 ⊢
  simp [e_is_name h.nm, e1, e2]
  rfl
theorem e_Press {p : Ps} {n : Nat} {S : List Nat} (h1 : NmOk p.up.1) (h2 : p.up.2 < 12) (h3 : NmOk p.low.1) (h4 : p.low.2 < 12) (h5 : TbOk p.tab n S) (hS : ∀ c ∈ S, c ∈ abc) (h6 : RhOk p.bar) :
    F_Press___init__ [placeD p.up, placeD p.low, tabD p.tab, .str p.bar] = ret (pressD p) := by
  have e1 : F_is_press_place [placeD p.up] = ret (.bl true) := e_is_press_place h1 (by omega) (by omega)
  have e2 : F_is_press_place [placeD p.low] = ret (.bl true) := e_is_press_place h3 (by omega) (by omega)
  unfold F_Press___init__
  simp [e1, e2, e_is_table h5 hS, e_is_rhythm h6]
  rfl
theorem mem_spots {w : Wk} {p : Pl} : p ∈ w.spots ↔ ∃ b ∈ w.bands, b.nm = p.1 ∧ p.2 < b.wide := by
  unfold Wk.spots
  rw [List.mem_flatMap]
  constructor
  · rintro ⟨b, hb, h⟩
    obtain ⟨k, hk, rfl⟩ := List.mem_map.mp h
    exact ⟨b, hb, rfl, List.mem_range.mp hk⟩
  · rintro ⟨b, hb, h1, h2⟩
    exact ⟨b, hb, List.mem_map.mpr ⟨p.2, List.mem_range.mpr h2, by rw [h1]⟩⟩
theorem WkOk.place {w : Wk} (h : WkOk w) {p : Pl} (hp : p ∈ w.spots) : NmOk p.1 ∧ p.2 < 12 := by
  obtain ⟨b, hb, e, hk⟩ := mem_spots.mp hp
  have := (h.bd b hb).hi
  exact ⟨e ▸ (h.bd b hb).nm, by omega⟩
theorem nodup_key {α β γ : Type} {xs : List α} {f : α → β} {g : β → γ} (hg : ∀ a b, g a = g b → a = b) (h : (xs.map f).Nodup) : (xs.map fun x => g (f x)).Nodup := by
  have := List.Pairwise.map (S := (· ≠ ·)) g (fun a b (hab : a ≠ b) (e : g a = g b) => hab (hg a b e)) h
  rw [List.map_map] at this
  exact this
theorem e_are_bands {w : Wk} (h : WkOk w) : F_are_bands [.lst (w.bands.map bandD)] = ret (.bl true) := by
  have h1 := h.lo
  have h2 := h.hi
  have h1' : (1 : Int) ≤ w.bands.length := by omega
  have h2' : (w.bands.length : Int) ≤ 6 := by omega
  have hs := h.sum
  unfold F_are_bands
  have i2 : isi2B .list .tuple (.lst (w.bands.map bandD)) = some (.bl true) := rfl
  simp [i2, c_MOST_BANDS, c_MOST_PLACES, h1', h2']
  rw [lcW_map (f := fun _ => .bl true)]
  · simp [allD_yes]
    rw [csW_set (kf := fun b => .inr b.nm)]
    · have h3 : w.bands.length < 64 := by omega
      simp [h3]
      rw [lcW_map (f := fun b => .int b.wide)]
      · simp [sumD_of]
        have e : ((w.bands.map fun b => (b.wide : Int)).sum) = (((w.bands.map (·.wide)).sum : Nat) : Int) := by
          generalize w.bands = l
          induction l with
          | nil => rfl
          | cons b l ih => simp [ih]
        rw [e, decide_eq_true (by omega)]
      · simp
    · exact nodup_key (fun a b e => Sum.inr.inj e) h.nd
    · omega
    · intro b hb s hs
      simp [kStep, hs]
  · simp
end Mg
set_option Elab.async false
set_option linter.all false
set_option maxRecDepth 100000
set_option maxHeartbeats 4000000
namespace Mg
open Pu Pg
@[simp] theorem forW_nil (g : GX) (b : SX) (ρ : En) : forW g b [] ρ = ret (.nx ρ) := eqo rfl
@[simp] theorem forW_cons (g : GX) (b : SX) (d : D) (ds : List D) (ρ : En) : forW g b (d :: ds) ρ = bnd (lft (g d ρ)) fun ρ1 => bnd (b ρ1) fun c => match c with
    | .nx ρ2 => forW g b ds ρ2
    | .ct ρ2 => forW g b ds ρ2
    | .bk ρ2 => ret (.nx ρ2)
    | .rt d => ret (.rt d) := eqo rfl
@[simp] theorem gTup_pl (gs : List D → En → Option En) (p : Pl) (ρ : En) : gTup 2 gs (placeD p) ρ = gs [.str p.1, .int p.2] ρ := eqo rfl
theorem look_of {α κ : Type} [DecidableEq κ] (kf : α → κ) (vf : α → D) : ∀ {xs : List α}, (xs.map kf).Nodup → ∀ {x : α}, x ∈ xs → lookD (xs.map kf) (xs.map vf) (kf x) = some (vf x)
  | [], _, x, hx => by simp at hx
  | y :: ys, nd, x, hx => by
    rw [List.map_cons, List.map_cons]
    unfold lookD
    rw [List.map_cons, List.nodup_cons] at nd
    rcases List.mem_cons.mp hx with rfl | hx
    · rw [if_pos rfl]
    · have : kf y ≠ kf x := fun e => nd.1 (e ▸ List.mem_map.mpr ⟨x, hx, rfl⟩)
      rw [if_neg this]
      exact look_of kf vf nd.2 hx
def longsD (w : Wk) : D := .dic (w.bands.map fun b => .inr b.nm) (w.bands.map fun b => .int b.wide)
theorem e_longs {w : Wk} (h : WkOk w) {p : Pl} (hp : p ∈ w.spots) : ∃ m : Nat, p.2 < m ∧ lookD (w.bands.map fun b => (Sum.inr b.nm : Ky)) (w.bands.map fun b => D.int b.wide) (.inr p.1) = some (.int m) := by
  obtain ⟨b, hb, e, hk⟩ := mem_spots.mp hp
  refine ⟨b.wide, hk, ?_⟩
  rw [← e]
  exact look_of (fun b : Bd => (Sum.inr b.nm : Ky)) (fun b : Bd => D.int b.wide) (nodup_key (fun a b e => Sum.inr.inj e) h.nd) hb
theorem e_fits {w : Wk} (h : WkOk w) {p : Ps} (hp : p ∈ w.press) : F_fits [pressD p, .str w.sg, longsD w] = ret (.bl true) := by
  have ht := h.tab p hp
  obtain ⟨m1, l1, e1⟩ := e_longs h (h.up p hp)
  obtain ⟨m2, l2, e2⟩ := e_longs h (h.low p hp)
  have l1' : ¬ (m1 : Int) ≤ p.up.2 := by omega
  have l2' : ¬ (m2 : Int) ≤ p.low.2 := by omega
  have hS := h.sg.big
  have h4 := h.sg.hi
  unfold F_fits longsD
  simp [hS, ht.len, e1, e2, l1', l2']
  rw [lcW_map (f := fun _ => .bl true)]
  · simp [allD_yes]
  · intro r hr
    have e : F_is_text_of [.str r, .str w.sg, .int w.sg.length, .int w.sg.length] = ret (.bl true) := e_text_yes (by rw [ht.row r hr]; omega) (by rw [ht.row r hr]; omega) (by rw [ht.row r hr]; omega) (fun c hc => ht.sg r hr c hc)
    simp [e, hS]
theorem spots_nodup {w : Wk} (h : WkOk w) : w.spots.Nodup := by
  have nd := h.nd
  unfold Wk.spots
  generalize w.bands = l at nd
  induction l with
  | nil => simp
  | cons b l ih =>
    rw [List.map_cons, List.nodup_cons] at nd
    rw [List.flatMap_cons, List.nodup_append]
    refine ⟨?_, ih nd.2, fun p hp q hq e => ?_⟩
    · exact List.Pairwise.map _ (fun a b hab e => hab (Prod.mk.inj e).2) List.nodup_range
    · obtain ⟨k, hk, rfl⟩ := List.mem_map.mp hp
      obtain ⟨b', hb', h'⟩ := List.mem_flatMap.mp hq
      obtain ⟨k', hk', rfl⟩ := List.mem_map.mp h'
      exact nd.1 ((Prod.mk.inj e).1 ▸ List.mem_map.mpr ⟨b', hb', rfl⟩)
theorem keyP_inj (a b : Pl) (h : keyP a = keyP b) : a = b := by
  obtain ⟨x, y⟩ := a
  obtain ⟨u, v⟩ := b
  unfold keyP at h
  simp at h
  obtain ⟨h1, h2⟩ := h
  rw [h1, Int.ofNat.inj h2]
theorem keys_nodup {w : Wk} (h : WkOk w) : (w.spots.map keyP).Nodup := by
  have := nodup_key (xs := w.spots) (f := id) (g := keyP) keyP_inj (by rw [List.map_id]; exact spots_nodup h)
  exact this
theorem spots_len (w : Wk) : w.spots.length = (w.bands.map (·.wide)).sum := by
  unfold Wk.spots
  rw [List.length_flatMap]
  congr 1
  simp
theorem e_spots {w : Wk} (h : WkOk w) {ρ : En} (hl : ρ.length = 8) (he : getS ρ 2 = some (.lst (w.bands.map bandD))) (h5 : ρ[5]? = some .no) (h6 : ρ[6]? = some .no) :
    xLc2 [5, 6] (xIt (xN 2)) (gN 5) xYes [6] (xR1 (xMeth 0 F_Band_long (xN 5) xNil)) (gN 6) xYes (xTup (xCons (xMeth 0 F_Band_called (xN 5) xNil) (xCons (xN 6) xNil))) ρ = ret (.lst (w.spots.map placeD)) := by
  obtain ⟨a, b, c, d, e, f, g, i, rfl⟩ : ∃ a b c d e f g i, ρ = [a, b, c, d, e, f, g, i] := by
    match ρ, hl with
    | [a, b, c, d, e, f, g, i], _ => exact ⟨a, b, c, d, e, f, g, i, rfl⟩
  have h1 := h.hi
  have h1' : w.bands.length ≤ 1000 := by omega
  have he' : getS [a, b, c, d, e, f, g, i] 2 = some (.lst (w.bands.map bandD)) := he
  simp at he' h5 h6
  subst h5 h6
  simp [he', h1']
  rw [lc2_map (f := fun b => (List.range b.wide).map fun k => placeD (b.nm, k))]
  · unfold Wk.spots
    simp [List.map_flatMap]
    rfl
  · intro b hb
    have hb2 := (h.bd b hb).hi
    have hr : rngD 0 b.wide = some ((List.range b.wide).map fun i => .int (i : Nat)) := by
      unfold rngD
      have hbb : b.wide ≤ bigN := big_of (by omega)
      rw [if_pos (by refine ⟨by omega, by omega, by omega, by omega, by simpa using hbb⟩)]
      simp
    have hw : b.wide ≤ 1000 := by omega
    simp [hr, hw]
    rw [lcW_map (f := fun k => placeD (b.nm, k))]
    intro k hk
    simp
    rfl
theorem enum_map {α : Type} (f : α → D) (xs : List α) : enumD (xs.map f) = xs.zipIdx.map fun x => .tup [.int (x.2 : Nat), f x.1] := by
  unfold enumD
  rw [List.zipIdx_map, List.map_map]
  rfl
theorem zi_fst {α β : Type} (f : α → β) (xs : List α) : (xs.zipIdx.map fun x => f x.1) = xs.map f := by
  have := congrArg (List.map f) (List.zipIdx_map_fst 0 xs)
  rw [List.map_map] at this
  exact this
theorem zi_snd {α β : Type} (f : Nat → β) (xs : List α) : (xs.zipIdx.map fun x => f x.2) = (List.range xs.length).map f := by
  have := congrArg (List.map f) (List.zipIdx_map_snd 0 xs)
  rw [List.map_map, ← List.range_eq_range'] at this
  exact this
theorem tupK_pl (p : Pl) : dStepT.tupK (placeD p) = some (keyP p) := rfl
theorem e_numbers {w : Wk} (h : WkOk w) (a1 a2 a3 a4 a5 : Sl) : xDct [6, 7] (xEnum (xFldO 0 2 3)) (gTup 2 (gCons (gN 6) (gCons (gN 7) gNil))) xYes (xN 7) (xN 6) (.ow (.obj 2 [.str w.sg, .tup (w.bands.map bandD), .tup (w.press.map pressD), .lst (w.spots.map placeD)]) :: [a1, a2, a3, a4, a5, .no, .no]) = ret (.dct (w.spots.map keyP) ((List.range w.spots.length).map fun (i : Nat) => .int i)) := by
  simp [enum_map]
  rw [csW_dct (kf := fun x => keyP x.1) (vf := fun x => .int (x.2 : Nat))]
  · simp only [bnd_ret_e]
    rw [zi_fst keyP, zi_snd fun i : Nat => D.int (i : Nat)]
  · rw [zi_fst keyP]
    exact keys_nodup h
  · rintro ⟨p, i⟩ hx s
    simp [dStepT, tupK_pl]
theorem e_Work {w : Wk} (h : WkOk w) : F_Work___init__ [.str w.sg, .lst (w.bands.map bandD), .lst (w.press.map pressD)] = ret (workD w) := by
  have h1 := h.hi
  have h2 := h.pr
  have h2' : ¬ (8 : Int) < w.press.length := by omega
  have i2 : isi2B .list .tuple (.lst (w.press.map pressD)) = some (.bl true) := rfl
  unfold F_Work___init__
  refine in_nx (ρ := [.fz (.str w.sg), .fz (.lst (w.bands.map bandD)), .fz (.lst (w.press.map pressD)), .fz (longsD w), .no, .no, .no]) ?_ rfl (xs := [.str w.sg, .tup (w.bands.map bandD), .tup (w.press.map pressD), .lst (w.spots.map placeD), _])
  refine (seq_iff ?_).trans ?_
  · simp [e_are_signs h.sg]
  refine (seq_iff ?_).trans ?_
  · simp [e_are_bands h]
  refine (seq_set (longsD w) rfl ?_).trans ?_
  · simp
    rw [csW_dic (kf := fun b => .inr b.nm) (vf := fun b => .int b.wide)]
    · rfl
    · exact nodup_key (fun a b e => Sum.inr.inj e) h.nd
    · intro b hb s
      simp [dStep]
  refine (seq_iff ?_).trans ?_
  · simp [i2, c_MOST_PRESSES, h2']
  refine (seq_iff ?_).trans ?_
  · simp
    rw [lcW_map (f := fun _ => .bl true)]
    · simp [allD_yes]
    · intro p hp
      simp [e_fits h hp]
  refine (seq_fld (.str w.sg) (by simp) rfl).trans ?_
  refine (seq_fld (.tup (w.bands.map bandD)) (by simp [tupleD]) rfl).trans ?_
  refine (seq_fld (.tup (w.press.map pressD)) (by simp [tupleD]) rfl).trans ?_
  refine (seq_fld (.lst (w.spots.map placeD)) ?_ rfl).trans ?_
  · exact e_spots h rfl rfl rfl rfl
  exact fld_nx _ (e_numbers h _ _ _ _ _) rfl
end Mg
set_option Elab.async false
set_option linter.all false
set_option maxRecDepth 100000
set_option maxHeartbeats 4000000
namespace Mg
open Pu Pg
theorem e_gcd (a b : Nat) : F_common_divisor [.int a, .int b] = ret (.int (Nat.gcd a b)) := by
  have key : ∀ (b a : Nat), ∃ k, Wh (xTb (xBin gtDo (xN 1) (xC (.int 0)))) (sPar [0, 1] (mFz (xN 1) (mFz (xBin modD (xN 0) (xN 1)) mNil))) k [.fz (.int a), .fz (.int b)] [.fz (.int (Nat.gcd a b)), .fz (.int 0)] := by
    intro b
    induction b using Nat.strongRecOn with
    | ind b ih =>
      intro a
      by_cases hb : b = 0
      · subst hb
        refine ⟨0, ?_⟩
        rw [Nat.gcd_zero_right]
        exact .done (by simp)
      · have hb' : 0 < b := by omega
        obtain ⟨k, hk⟩ := ih (a % b) (Nat.mod_lt _ (by omega)) b
        refine ⟨k + 1, .step (ρ1 := [.fz (.int b), .fz (.int (a % b : Nat))]) (by simp [hb']) (by simp [hb']) ?_⟩
        rw [Nat.gcd_comm a b, Nat.gcd_rec b a, Nat.gcd_comm (a % b) b]
        exact hk
  obtain ⟨k, hk⟩ := key b a
  unfold F_common_divisor
  refine fn_rt ?_
  refine (seq_nx (ρ' := [.fz (.int (Nat.gcd a b)), .fz (.int 0)]) ?_).trans ?_
  · exact hk.eq
  · simp
theorem sm_of {i : Int} (h : i.natAbs ≤ 1000000000000) : smI i = true := decide_eq_true (Nat.lt_of_le_of_lt h (by decide))
theorem mid_of {i : Int} (h : i.natAbs ≤ 1000000000000) : midI i = true := decide_eq_true (Nat.lt_of_le_of_lt h (by
  have : (2 : Nat) ^ 64 ≤ 2 ^ 1000 := Nat.pow_le_pow_right (by decide) (by decide)
  have : (1000000000000 : Nat) < 2 ^ 64 := by decide
  omega))
theorem mul_sm {a b : Int} (h : smI a = true) : mulD (.int a) (.int b) = some (.int (a * b)) := by
  show (if (smI a || smI b || (midI a && midI b)) = true then _ else _) = _
  rw [h]
  rfl
theorem mul_sm2 {a b : Int} (h : smI b = true) : mulD (.int a) (.int b) = some (.int (a * b)) := by
  show (if (smI a || smI b || (midI a && midI b)) = true then _ else _) = _
  rw [h, Bool.or_true]
  rfl
theorem fdiv_ok {a b : Int} (h : 0 < b) (h2 : midI b = true) : fdivD (.int a) (.int b) = some (.int (a / b)) := if_pos ⟨h, h2⟩
def lc (a b : Nat) : Nat := a / Nat.gcd a b * b
theorem e_lcm {a b : Nat} (ha : 0 < a) (h : a ≤ 1000) (hb : b ≤ 1000) : F_common_multiple [.int a, .int b] = ret (.int (lc a b)) := by
  have hg : 0 < Nat.gcd a b := Nat.gcd_pos_of_pos_left b ha
  have hg2 : Nat.gcd a b ≤ a := Nat.gcd_le_left b ha
  have hg' : (0 : Int) < (Nat.gcd a b : Int) := by omega
  unfold F_common_multiple
  simp [e_gcd]
  rw [fdiv_ok hg' (mid_of (by omega))]
  simp
  rw [mul_sm2 (sm_of (by omega))]
  unfold lc
  simp
theorem lc_pos {a b : Nat} (ha : 0 < a) (hb : 0 < b) : 0 < lc a b := Nat.mul_pos (Nat.div_pos (Nat.gcd_le_left b ha) (Nat.gcd_pos_of_pos_left b ha)) hb
theorem lc_le {a b : Nat} : lc a b ≤ a * b := Nat.mul_le_mul_right _ (Nat.div_le_self _ _)
theorem lc_dvd_r (a b : Nat) : b ∣ lc a b := Nat.dvd_mul_left _ _
theorem lc_dvd_l (a b : Nat) : a ∣ lc a b := by
  unfold lc
  obtain ⟨c, hc⟩ := Nat.gcd_dvd_right a b
  obtain ⟨d, hd⟩ := Nat.gcd_dvd_left a b
  by_cases hg : Nat.gcd a b = 0
  · have : a = 0 := Nat.eq_zero_of_gcd_eq_zero_left hg
    subst this
    simp
  · have e : a / Nat.gcd a b = d := by
      rw [Nat.div_eq_iff_eq_mul_left (Nat.pos_of_ne_zero hg) (Nat.gcd_dvd_left a b), Nat.mul_comm]
      exact hd
    refine ⟨c, ?_⟩
    rw [e]
    calc d * b = d * (Nat.gcd a b * c) := by rw [← hc]
      _ = Nat.gcd a b * d * c := by rw [← Nat.mul_assoc, Nat.mul_comm d]
      _ = a * c := by rw [← hd]

/-! ### places of a work -/
theorem e_has_place {w : Wk} (h : WkOk w) {p : Pl} (hp : p ∈ w.spots) : F_Work_has_place [workD w, placeD p] = ret (.bl true) := by
  have e1 : F_is_place [placeD p] = ret (.bl true) := e_is_place (h.place hp).1 (by omega)
  have e2 : inDo (placeD p) (.dct (w.spots.map keyP) ((List.range w.spots.length).map fun (i : Nat) => .int i)) = some (.bl true) := by
    have hk : hasK (w.spots.map keyP) (keyP p) = true := hasK_iff.mpr (List.mem_map.mpr ⟨p, hp, rfl⟩)
    show ((some (keyP p)).map fun k => hasK (w.spots.map keyP) k).map D.bl = _
    show some (D.bl (hasK (w.spots.map keyP) (keyP p))) = _
    rw [hk]
  unfold F_Work_has_place
  simp [e1, e2]
theorem look_idx : ∀ (xs : List Pl) (p : Pl) (s : Nat), p ∈ xs → lookD (xs.map keyP) ((List.range' s xs.length).map fun (i : Nat) => D.int i) (keyP p) = some (.int (s + xs.idxOf p : Nat))
  | [], p, s, hp => by simp at hp
  | x :: xs, p, s, hp => by
    rw [List.map_cons, List.length_cons, List.range'_succ, List.map_cons]
    unfold lookD
    by_cases e : x = p
    · subst e
      rw [if_pos rfl]
      simp
    · have hne : keyP x ≠ keyP p := fun z => e (keyP_inj _ _ z)
      rw [if_neg hne]
      rcases List.mem_cons.mp hp with hp | hp
      · exact absurd hp.symm e
      · have hne2 : (x == p) = false := by simpa using e
        rw [look_idx xs p (s + 1) hp, List.idxOf_cons, hne2]
        congr 2
        simp
        omega
theorem e_place_in {w : Wk} (h : WkOk w) {p : Pl} (hp : p ∈ w.spots) : F_Work_place_in [workD w, placeD p] = ret (.int (w.spots.idxOf p : Nat)) := by
  have e2 : idxD (.dct (w.spots.map keyP) ((List.range w.spots.length).map fun (i : Nat) => .int i)) (placeD p) = some (.int (w.spots.idxOf p : Nat)) := by
    have := look_idx w.spots p 0 hp
    rw [← List.range_eq_range', Nat.zero_add] at this
    exact this
  unfold F_Work_place_in
  simp [e_has_place h hp, e2]
theorem filter_nm : ∀ {l : List Bd}, (l.map (·.nm)).Nodup → ∀ {b : Bd}, b ∈ l → l.filter (fun c => c.nm == b.nm) = [b]
  | [], _, b, hb => by simp at hb
  | c :: l, nd, b, hb => by
    rw [List.map_cons, List.nodup_cons] at nd
    rcases List.mem_cons.mp hb with rfl | hb
    · rw [List.filter_cons_of_pos (by simp)]
      congr 1
      rw [List.filter_eq_nil_iff]
      intro x hx hxx
      exact nd.1 (List.mem_map.mpr ⟨x, hx, by simpa using hxx⟩)
    · rw [List.filter_cons_of_neg]
      · exact filter_nm nd.2 hb
      · intro z
        have z' : c.nm = b.nm := by simpa using z
        exact nd.1 (List.mem_map.mpr ⟨b, hb, z'.symm⟩)
theorem e_band_of {w : Wk} (h : WkOk w) {b : Bd} (hb : b ∈ w.bands) : F_Work_band_of [workD w, .str b.nm] = ret (bandD b) := by
  unfold F_Work_band_of
  simp
  rw [lcW_fil (p := fun c => c.nm == b.nm) (f := bandD), filter_nm h.nd hb]
  · have : addD (.lst [bandD b]) (.lst [.non]) = some (.lst [bandD b, .non]) := rfl
    simp [this]
  · intro c hc
    simp
    by_cases e : c.nm = b.nm <;> simp [e]
/-- where what stood at k of band b has come -/
def wh (b : Bd) (k : Nat) (t : Int) : Nat := (((k : Int) + b.pace * t) % b.wide).toNat
theorem wh_lt {b : Bd} (h : BdOk b) (k : Nat) (t : Int) : wh b k t < b.wide := by
  have := h.lo
  unfold wh
  have h1 := Int.emod_nonneg ((k : Int) + b.pace * t) (show (b.wide : Int) ≠ 0 by omega)
  have h2 := Int.emod_lt_of_pos ((k : Int) + b.pace * t) (show (0 : Int) < b.wide by omega)
  omega
theorem wh_int {b : Bd} (h : BdOk b) (k : Nat) (t : Int) : (wh b k t : Int) = ((k : Int) + b.pace * t) % b.wide := by
  have := h.lo
  have h1 := Int.emod_nonneg ((k : Int) + b.pace * t) (show (b.wide : Int) ≠ 0 by omega)
  unfold wh
  omega
theorem e_where {w : Wk} (h : WkOk w) {b : Bd} (hb : b ∈ w.bands) {k : Nat} (hk : k < b.wide) (t : Int) : F_where [workD w, placeD (b.nm, k), .int t] = ret (placeD (b.nm, wh b k t)) := by
  have ok := h.bd b hb
  have hp : (b.nm, k) ∈ w.spots := mem_spots.mpr ⟨b, hb, rfl, hk⟩
  have h1 := ok.lo
  have h2 := ok.p0
  have h3 := ok.p1
  have hm : mulD (.int b.pace) (.int t) = some (.int (b.pace * t)) := mul_sm (sm_of (by omega))
  unfold F_where
  refine fn_rt ?_
  refine (seq_expr (.int (w.spots.idxOf (b.nm, k) : Nat)) (by simp [e_place_in h hp])).trans ?_
  refine (seq_set (bandD b) rfl ?_).trans ?_
  · simp [e_band_of h hb]
  refine ret_rt ?_
  have h1' : 0 < b.wide := by omega
  simp [hm, h1']
  unfold placeD
  rw [wh_int ok]
end Mg
set_option Elab.async false
set_option linter.all false
set_option maxRecDepth 100000
set_option maxHeartbeats 4000000
namespace Mg
open Pu Pg
theorem abc_lt : ∀ c ∈ abc, c < 1000 := by decide
theorem NmOk.cps {s : List Nat} (h : NmOk s) : cpsOk s = true := List.all_eq_true.mpr fun c hc => decide_eq_true (abc_lt c (h.abc c hc))
/-- whether a rhythm has x at beat t -/
def beatB (bar : List Nat) (t : Int) : Bool := bar.getD ((t - 1) % bar.length).toNat 0 == 120
theorem e_has_beat {p : Ps} (h : RhOk p.bar) (t : Int) : F_Press_has_beat [pressD p, .int t] = ret (.bl (beatB p.bar t)) := by
  have h1 := h.lo
  have h2 := h.big
  have h3 : 0 < p.bar.length := by omega
  have h4 := Int.emod_nonneg (t - 1) (show (p.bar.length : Int) ≠ 0 by omega)
  have h5 := Int.emod_lt_of_pos (t - 1) (show (0 : Int) < p.bar.length by omega)
  obtain ⟨j, hj⟩ := Int.eq_ofNat_of_zero_le h4
  have hj2 : j < p.bar.length := by omega
  unfold F_Press_has_beat
  simp [h2, h3, hj, idx_sn h2, List.getElem?_eq_getElem hj2]
  unfold beatB
  rw [hj]
  simp [c_WORKS, List.getD_eq_getElem?_getD, List.getElem?_eq_getElem hj2]
theorem e_need_press {w : Wk} (h : WkOk w) {i : Nat} {p : Ps} (hp : w.press[i]? = some p) : F_need_press [workD w, .int i] = ret (pressD p) := by
  have hi : i < w.press.length := (List.getElem?_eq_some_iff.mp hp).1
  have e : F_is_whole [.int i, .int 0, .int (w.press.length - 1)] = ret (.bl true) := by
    rw [e_is_whole, decide_eq_true (by omega)]
  unfold F_need_press
  simp [e, idx_ln, hp]
theorem eq_pl {a b : Pl} (ha : cpsOk a.1 = true) (hb : cpsOk b.1 = true) : eqDo (placeD a) (placeD b) = some (.bl (decide (a = b))) := by
  have e : eqDo (placeD a) (placeD b) = some (.bl (a.1 == b.1 && (((a.2 : Int) == b.2) && true))) := by
    simp [eqDo, placeD, plD, plN, eqB, eqBs, ha, hb]
  rw [e]
  congr 2
  obtain ⟨x, y⟩ := a
  obtain ⟨u, v⟩ := b
  by_cases h1 : x = u <;> by_cases h2 : y = v <;> simp [h1, h2] <;> omega
theorem ne_pl {a b : Pl} (ha : cpsOk a.1 = true) (hb : cpsOk b.1 = true) : neDo (placeD a) (placeD b) = some (.bl (!decide (a = b))) := by
  have e : neDo (placeD a) (placeD b) = some (.bl (!(a.1 == b.1 && (((a.2 : Int) == b.2) && true)))) := by
    simp [neDo, placeD, plD, plN, eqB, eqBs, ha, hb]
  rw [e]
  congr 3
  obtain ⟨x, y⟩ := a
  obtain ⟨u, v⟩ := b
  by_cases h1 : x = u <;> by_cases h2 : y = v <;> simp [h1, h2] <;> omega
def sideS (s : Bool) : List Nat := if s then [97, 98, 111, 118, 101] else [98, 101, 108, 111, 119]
def Ps.spot (p : Ps) (s : Bool) : Pl := if s then p.up else p.low
theorem spot_in {w : Wk} (h : WkOk w) {p : Ps} (hp : p ∈ w.press) (s : Bool) : p.spot s ∈ w.spots := by
  cases s
  · exact h.low p hp
  · exact h.up p hp
/-- the beats of a round at which k of band b passes the spot -/
def passT (b : Bd) (p : Ps) (s : Bool) (k : Nat) (t : Int) : Bool := beatB p.bar t && decide ((b.nm, wh b k t) = p.spot s)
def rnd (b : Bd) (p : Ps) : Nat := lc b.wide p.bar.length
def passL (b : Bd) (p : Ps) (s : Bool) (k : Nat) : List Nat := ((List.range (rnd b p)).map (· + 1)).filter fun t => passT b p s k t
def passD (b : Bd) (p : Ps) (s : Bool) (k : Nat) : D := .tup [.int (rnd b p), .lst ((passL b p s k).map fun (t : Nat) => .int t)]
theorem rnd_pos {b : Bd} {p : Ps} (h : BdOk b) (hp : RhOk p.bar) : 0 < rnd b p := lc_pos (by have := h.lo; omega) (by have := hp.lo; omega)
theorem rnd_le {b : Bd} {p : Ps} (h : BdOk b) (hp : RhOk p.bar) : rnd b p ≤ 72 := by
  have h1 := h.hi
  have h2 := hp.hi
  have h3 : b.wide * p.bar.length ≤ 12 * 6 := Nat.mul_le_mul h1 h2
  have h4 : lc b.wide p.bar.length ≤ b.wide * p.bar.length := lc_le
  unfold rnd
  omega
theorem rng1 {m : Nat} (h : m ≤ 1000) : rngD 1 ((m : Int) + 1) = some ((List.range m).map fun i => .int ((i + 1 : Nat) : Int)) := by
  unfold rngD
  have e : ((m : Int) + 1 - 1).toNat = m := by omega
  rw [if_pos ⟨by omega, by omega, by omega, by omega, by rw [e]; exact big_of h⟩, e]
  congr 1
  refine List.map_congr_left fun i _ => ?_
  congr 1
  omega
theorem e_passes {w : Wk} (h : WkOk w) {i : Nat} {p : Ps} (hp : w.press[i]? = some p) (s : Bool) {b : Bd} (hb : b ∈ w.bands) {k : Nat} (hk : k < b.wide) :
    F_passes [workD w, .int i, .str (sideS s), placeD (b.nm, k)] = ret (passD b p s k) := by
  have hpm : p ∈ w.press := List.mem_of_getElem? hp
  have ok := h.bd b hb
  have hbar := h.bar p hpm
  have hpl : (b.nm, k) ∈ w.spots := mem_spots.mpr ⟨b, hb, rfl, hk⟩
  have hin : ninDo (.str (sideS s)) c_SIDES = some (.bl false) := by cases s <;> rfl
  have hab : eqDo (.str (sideS s)) c_ABOVE = some (.bl s) := by cases s <;> rfl
  have h1 := ok.lo
  have h2 := ok.hi
  have h3 := hbar.hi
  have h4 := hbar.big
  have er := rnd_le ok hbar
  unfold F_passes
  refine fn_rt ?_
  refine (seq_set (pressD p) rfl (by simp [e_need_press h hp])).trans ?_
  refine (seq_iff (by simp [hin])).trans ?_
  refine (seq_expr (.int (w.spots.idxOf (b.nm, k) : Nat)) (by simp [e_place_in h hpl])).trans ?_
  refine (seq_set (placeD (p.spot s)) rfl ?_).trans ?_
  · simp [hab]
    cases s <;> simp [Ps.spot]
  refine (seq_set (.int (rnd b p)) rfl ?_).trans ?_
  · simp [e_band_of h hb, h4]
    exact e_lcm (by omega) (by omega) (by omega)
  refine (seq_set (.lst ((passL b p s k).map fun (t : Nat) => .int t)) rfl ?_).trans ?_
  · refine lc_ret (ds := (List.range (rnd b p)).map fun i => .int ((i + 1 : Nat) : Int)) ?_ ?_
    · have := rng1 (show rnd b p ≤ 1000 by omega)
      simp only [xR2_e, xC_e, xBin_e, xN_e, bnd_ret_e, bnd_bnd_e, lft_some_e]
      simp [this]
    · rw [lcW_fil (p := fun t => passT b p s k (t + 1 : Nat)) (f := fun t => .int ((t + 1 : Nat) : Int))]
      · unfold passL
        rw [List.filter_map, List.map_map]
        rfl
      · intro t ht
        simp [e_has_beat hbar, e_where h hb hk]
        have hs : p.spot s ∈ w.spots := spot_in h hpm s
        rw [eq_pl ok.nm.cps (h.place hs).1.cps]
        by_cases hB : beatB p.bar ((t : Int) + 1) = true
        · by_cases hW : (b.nm, wh b k ((t : Int) + 1)) = p.spot s <;> simp [hB, hW, passT]
        · simp [hB, passT]
  · refine ret_rt ?_
    simp
    rfl

theorem passL_len {b : Bd} {p : Ps} (s : Bool) (k : Nat) (h : BdOk b) (hp : RhOk p.bar) : (passL b p s k).length ≤ 72 := by
  unfold passL
  refine Nat.le_trans (List.length_filter_le _ _) ?_
  simp
  exact rnd_le h hp
def howMany (b : Bd) (p : Ps) (s : Bool) (k : Nat) (t : Int) : Int := t / rnd b p * (passL b p s k).length + ((passL b p s k).filter fun (x : Nat) => decide ((x : Int) ≤ t % rnd b p)).length
theorem e_how_many {w : Wk} (h : WkOk w) {i : Nat} {p : Ps} (hp : w.press[i]? = some p) (s : Bool) {b : Bd} (hb : b ∈ w.bands) {k : Nat} (hk : k < b.wide) (t : Int) :
    F_how_many_passes [workD w, .int i, .str (sideS s), placeD (b.nm, k), .int t] = ret (.int (howMany b p s k t)) := by
  have hpm : p ∈ w.press := List.mem_of_getElem? hp
  have ok := h.bd b hb
  have hbar := h.bar p hpm
  have er := rnd_le ok hbar
  have e0 := rnd_pos ok hbar
  have el := passL_len s k ok hbar
  unfold F_how_many_passes
  refine fn_rt ?_
  refine (seq_asg (passD b p s k) (by simp [e_passes h hp s hb hk]) (by rw [passD]; rfl)).trans ?_
  refine (seq_set (.int (t % rnd b p)) rfl (by simp [e0])).trans ?_
  refine ret_rt ?_
  simp
  rw [fdiv_ok (by omega) (mid_of (by omega)), lcW_fil (p := fun (x : Nat) => decide ((x : Int) ≤ t % rnd b p)) (f := fun (x : Nat) => .int x)]
  · simp
    rw [mul_sm2 (sm_of (by omega))]
    simp [howMany]
  · intro x hx
    simp
    by_cases hc : (x : Int) ≤ t % rnd b p <;> simp [hc]
/-- the passes behind a beat, in the round that begins before it and in the next one -/
def laterL (b : Bd) (p : Ps) (s : Bool) (k : Nat) (t : Int) : List Int := (((passL b p s k).map fun (x : Nat) => (x : Int)) ++ (passL b p s k).map fun (x : Nat) => ((rnd b p : Int) + (x : Int))).filter (fun x => decide (t < t / rnd b p * rnd b p + x)) |>.map fun x => t / rnd b p * rnd b p + x
def nextD (l : List Int) : D := match l with | [] => .non | m :: r => .int (r.foldl min m)
theorem e_next {w : Wk} (h : WkOk w) {i : Nat} {p : Ps} (hp : w.press[i]? = some p) (s : Bool) {b : Bd} (hb : b ∈ w.bands) {k : Nat} (hk : k < b.wide) (t : Int) :
    F_next_pass [workD w, .int i, .str (sideS s), placeD (b.nm, k), .int t] = ret (nextD (laterL b p s k t)) := by
  have hpm : p ∈ w.press := List.mem_of_getElem? hp
  have ok := h.bd b hb
  have hbar := h.bar p hpm
  have er := rnd_le ok hbar
  have e0 := rnd_pos ok hbar
  have el := passL_len s k ok hbar
  unfold F_next_pass
  refine fn_rt ?_
  refine (seq_asg (passD b p s k) (by simp [e_passes h hp s hb hk]) (by rw [passD]; rfl)).trans ?_
  refine (seq_set (.int (t / rnd b p * rnd b p)) rfl ?_).trans ?_
  · simp [fdiv_ok (show (0 : Int) < rnd b p by omega) (mid_of (by omega)), mul_sm2 (a := t / rnd b p) (sm_of (show (rnd b p : Int).natAbs ≤ _ by omega))]
  refine (seq_set (.lst ((laterL b p s k t).map .int)) rfl ?_).trans ?_
  · refine lc_ret (ds := (((passL b p s k).map fun (x : Nat) => (x : Int)) ++ (passL b p s k).map fun (x : Nat) => ((rnd b p : Int) + (x : Int))).map .int) ?_ ?_
    · simp
      rw [lcW_map (f := fun (x : Nat) => .int ((rnd b p : Int) + (x : Int)))]
      · have ha : addD (.lst ((passL b p s k).map fun (t : Nat) => D.int t)) (.lst ((passL b p s k).map fun (x : Nat) => D.int ((rnd b p : Int) + (x : Int)))) = some (.lst (((passL b p s k).map fun (t : Nat) => D.int t) ++ (passL b p s k).map fun (x : Nat) => D.int ((rnd b p : Int) + (x : Int)))) := by
          refine if_pos ?_
          rw [List.length_map, List.length_map]
          exact big_of (by omega)
        simp [ha]
        rfl
      · intro x hx
        simp
    · rw [lcW_fil (p := fun x => decide (t < t / rnd b p * rnd b p + x)) (f := fun x => .int (t / rnd b p * rnd b p + x))]
      · unfold laterL
        rw [List.map_map]
        rfl
      · intro x hx
        simp
        by_cases hc : t < t / rnd b p * rnd b p + x <;> simp [hc]
  · refine ret_rt ?_
    simp [minDD, intsOf_map]
    cases laterL b p s k t <;> rfl
end Mg
set_option Elab.async false
set_option linter.all false
set_option maxRecDepth 100000
set_option maxHeartbeats 4000000
namespace Mg
open Pu Pg
/-! ### draws -/
theorem h_draw {m : Int} (h0 : 0 < m) (h1 : m ≤ 10 ^ 70) : Hs (F__law_draw [.feed, .int m]) 1 (fun d => ∃ r : Nat, (r : Int) < m ∧ d = .int r) := Hs.draw h0 (by
  have : (10 : Int) ^ 70 < 2 ^ 250 := by decide
  have h3 : (2 : Int) ^ 250 ≤ 2 ^ 1000 := by
    have : (2 : Nat) ^ 250 ≤ 2 ^ 1000 := Nat.pow_le_pow_right (by decide) (by decide)
    exact_mod_cast this
  omega)
theorem h_pick {xs : List D} (h0 : 0 < xs.length) (h1 : xs.length ≤ 1000) : Hs (F__law_pick [.feed, .lst xs]) 1 (fun d => d ∈ xs) := by
  unfold F__law_pick
  simp
  refine Hs.bnd (d := 0) (h_draw (by omega) (by omega)) fun d ⟨r, hr, e⟩ => ?_
  subst e
  have hr' : r < xs.length := by omega
  simp [idx_ln, List.getElem?_eq_getElem hr']
  exact Hs.ret (List.getElem_mem hr')
theorem h_picks {s : List Nat} (h0 : 0 < s.length) (h1 : s.length ≤ 1000) : Hs (F__law_pick [.feed, .str s]) 1 (fun d => ∃ c ∈ s, d = .str [c]) := by
  unfold F__law_pick
  simp [big_of h1]
  refine Hs.bnd (d := 0) (h_draw (by omega) (by omega)) fun d ⟨r, hr, e⟩ => ?_
  subst e
  have hr' : r < s.length := by omega
  simp [idx_sn (big_of h1), List.getElem?_eq_getElem hr']
  exact Hs.ret ⟨_, List.getElem_mem hr', rfl⟩
theorem abc_at (i : Nat) (h : i < 26) : idxD (.str abc) (.int i) = some (.str [97 + i]) := by
  rw [idx_sn (by decide)]
  have : ∀ i, i < 26 → abc[i]? = some (97 + i) := by decide
  rw [this i h]
  rfl
theorem abc_mem (i : Nat) (h : i < 26) : 97 + i ∈ abc := by
  have : ∀ i, i < 26 → 97 + i ∈ abc := by decide
  exact this i h
theorem steps_in {d : D} {l : List Int} (h : d ∈ l.map D.int) : ∃ i ∈ l, d = .int i := by
  obtain ⟨i, hi, rfl⟩ := List.mem_map.mp h
  exact ⟨i, hi, rfl⟩
/-- unlike letters -/
def ltr (f st : Nat) (k : Nat) : Nat := 97 + (f + st * k) % 26
theorem ltr_abc (f st k : Nat) : ltr f st k ∈ abc := abc_mem _ (Nat.mod_lt _ (by decide))
theorem ltr_ne {f st : Nat} (hs : st ∈ [1, 3, 5, 7, 9, 11, 15, 17]) {a b : Nat} (ha : a < 26) (hb : b < 26) (h : ltr f st a = ltr f st b) : a = b := by
  have key : ∀ st ∈ [1, 3, 5, 7, 9, 11, 15, 17], ∀ f < 26, ∀ a < 26, ∀ b < 26, (f + st * a) % 26 = (f + st * b) % 26 → a = b := by decide +kernel
  refine key st hs (f % 26) (Nat.mod_lt _ (by decide)) a ha b hb ?_
  unfold ltr at h
  omega
theorem rng0 {m : Nat} (h : m ≤ 1000) : rngD 0 (m : Int) = some ((List.range m).map fun i => .int (i : Nat)) := by
  unfold rngD
  rw [if_pos ⟨by omega, by omega, by omega, by omega, by have := big_of h; simpa using this⟩]
  simp
theorem e_ltr (f st k : Nat) (hs : st ≤ 100) : (bnd (lft (mulD (.int st) (.int k))) fun x => bnd (lft (addD (.int f) x)) fun y => bnd (lft (modD y (.int 26))) fun z => lft (idxD (.str abc) z)) = ret (.str [ltr f st k]) := by
  rw [mul_sm (sm_of (by omega))]
  simp
  have : ((f : Int) + (st : Int) * (k : Int)) % 26 = ((f + st * k) % 26 : Nat) := by simp
  rw [this, abc_at _ (Nat.mod_lt _ (by decide))]
  rfl
end Mg
set_option Elab.async false
set_option linter.all false
set_option maxRecDepth 100000
set_option maxHeartbeats 4000000
namespace Mg
open Pu Pg
theorem sort_ones {ls : List Nat} (nd : ls.Nodup) : ∃ cs : List Nat, (ls.map fun c => [c]).mergeSort leT = cs.map (fun c => [c]) ∧ cs.Perm ls ∧ cs.Pairwise (· < ·) := by
  have p := List.mergeSort_perm (ls.map fun c => [c]) leT
  have srt := List.pairwise_mergeSort leT_trans leT_total (ls.map fun c => [c])
  generalize (ls.map fun c => [c]).mergeSort leT = ms at p srt
  have h1 : ∀ x ∈ ms, x = [x.headD 0] := fun x hx => by
    obtain ⟨c, _, rfl⟩ := List.mem_map.mp (p.mem_iff.mp hx)
    rfl
  have e1 : ms = (ms.map (·.headD 0)).map fun c => [c] := by
    rw [List.map_map]
    conv => lhs; rw [← List.map_id ms]
    exact List.map_congr_left fun x hx => h1 x hx
  have p1 : (ms.map (·.headD 0)).Perm ls := by
    have := p.map (·.headD 0)
    rw [List.map_map] at this
    have e : ls.map ((fun x : List Nat => x.headD 0) ∘ fun c => [c]) = ls := by
      conv => rhs; rw [← List.map_id ls]
      rfl
    rwa [e] at this
  refine ⟨_, e1, p1, ?_⟩
  have nd2 : (ms.map (·.headD 0)).Nodup := p1.nodup_iff.mpr nd
  have le : (ms.map (·.headD 0)).Pairwise (· ≤ ·) := by
    rw [List.pairwise_map]
    refine srt.imp_of_mem fun {a b} ha hb hab => ?_
    rw [h1 a ha, h1 b hb] at hab
    have := leT_iff.mp hab
    by_cases hlt : b.headD 0 < a.headD 0
    · exact absurd (List.Lex.rel hlt : [b.headD 0] < [a.headD 0]) (List.not_lt.mpr this)
    · omega
  exact (le.and nd2).imp fun ⟨h1, h2⟩ => by omega
theorem join_flat : ∀ ts : List (List Nat), ([] : List Nat).intercalate ts = ts.flatten
  | [] => rfl
  | [t] => by rw [List.intercalate_singleton]; simp
  | t :: u :: ts => by
    rw [List.intercalate_cons_cons, join_flat (u :: ts)]
    simp
theorem flat_ones (cs : List Nat) : (cs.map fun c => [c]).flatten = cs := by
  induction cs with
  | nil => rfl
  | cons c cs ih => simp [ih]
theorem e_join {ts : List (List Nat)} (h : ts.flatten.length ≤ 1000) : joinD (.str []) (.lst (ts.map .str)) = some (.str ts.flatten) := by
  show ((txtsOf (ts.map .str)).bind fun ts => if (ts.map (·.length)).sum + ts.length * ([] : List Nat).length ≤ bigN then some (D.str (([] : List Nat).intercalate ts)) else none) = _
  rw [txtsOf_map]
  show (if (ts.map (·.length)).sum + ts.length * ([] : List Nat).length ≤ bigN then some (D.str (([] : List Nat).intercalate ts)) else none) = _
  rw [List.length_flatten] at h
  rw [if_pos (by rw [List.length_nil, Nat.mul_zero, Nat.add_zero]; exact big_of h), join_flat]
theorem e_sorts {ts : List (List Nat)} (h0 : ts ≠ []) (h : ts.length < 64) : sortedD (.lst (ts.map .str)) = some (.lst ((ts.mergeSort leT).map .str)) := by
  have hi : intsOf (ts.map D.str) = none := by
    cases ts with
    | nil => exact absurd rfl h0
    | cons t ts => rfl
  show (match intsOf (ts.map D.str) with | some ns => some (D.lst ((ns.mergeSort leI).map .int)) | none => (txtsOf (ts.map D.str)).bind fun ts => if ts.length < 64 then some (D.lst ((ts.mergeSort leT).map .str)) else none) = _
  rw [hi, txtsOf_map]
  exact if_pos h
theorem h_signs {m : Nat} (h2 : 2 ≤ m) (h4 : m ≤ 4) : Hs (F__law_signs [.feed, .int m]) 2 (fun d => ∃ s, SgOk s ∧ s.length = m ∧ d = .str s) := by
  unfold F__law_signs
  refine Hs.fn ?_
  refine Hs.seq (c := 2) (d := 0) (P := fun ρ => ∃ f st : Nat, st ∈ [1, 3, 5, 7, 9, 11] ∧ ρ = [.fz .feed, .fz (.int m), .fz (.str abc), .fz (.int f), .fz (.int st), .no]) ?_ ?_
  · conv => arg 1; simp
    refine Hs.bnd (d := 1) (h_draw (by omega) (by omega)) fun d ⟨r, hr, e⟩ => ?_
    subst e
    refine Hs.bnd (d := 0) (h_pick (by simp) (by simp)) fun d hd => Hs.ret ?_
    obtain ⟨i, hi, rfl⟩ := steps_in (l := [1, 3, 5, 7, 9, 11]) (by simpa using hd)
    refine ⟨_, rfl, r, i.toNat, ?_, ?_⟩
    · simp at hi
      rcases hi with rfl | rfl | rfl | rfl | rfl | rfl <;> decide
    · simp at hi
      rcases hi with rfl | rfl | rfl | rfl | rfl | rfl <;> rfl
  · rintro ρ ⟨f, st, hst, rfl⟩
    have hst100 : st ≤ 100 := by simp at hst; omega
    have hst8 : st ∈ [1, 3, 5, 7, 9, 11, 15, 17] := by simp at hst ⊢; omega
    refine Hs.rt ?_
    have nd : ((List.range m).map (ltr f st)).Nodup := by
      rw [List.nodup_iff_pairwise_ne, List.pairwise_map]
      refine (List.pairwise_lt_range (n := m)).imp_of_mem fun {a b} ha hb hab e => ?_
      have ha' := List.mem_range.mp ha
      have hb' := List.mem_range.mp hb
      have := ltr_ne hst8 (by omega) (by omega) e
      omega
    obtain ⟨cs, e1, pc, up⟩ := sort_ones nd
    have hl : cs.length = m := by rw [pc.length_eq]; simp
    refine Hs.eq (a := .str cs) ?_ ⟨cs, ⟨by omega, by omega, fun c hc => ?_, up⟩, hl, rfl⟩
    · simp [rng0 (show m ≤ 1000 by omega)]
      rw [lcW_map (f := fun k => .str [ltr f st k])]
      · have e2 : ((List.range m).map fun k => D.str [ltr f st k]) = (((List.range m).map (ltr f st)).map fun c => [c]).map .str := by
          simp
        rw [e2, bnd_ret_e, e_sorts (by intro z; have := congrArg List.length z; simp at this; omega) (by simp; omega), lft_some_e, bnd_ret_e, e1]
        have := e_join (ts := cs.map fun c => [c]) (by rw [flat_ones]; omega)
        rw [flat_ones] at this
        simp only [this, lft_some_e]
      · intro k hk
        have := e_ltr f st k hst100
        simp
        exact congrArg (fun m => bnd m fun y => ret (some y)) this
    · obtain ⟨k, _, rfl⟩ := List.mem_map.mp (pc.mem_iff.mp hc)
      exact ltr_abc f st k
end Mg
set_option Elab.async false
set_option linter.all false
set_option maxRecDepth 100000
set_option maxHeartbeats 4000000
namespace Mg
open Pu Pg
/-- picked one by one -/
theorem picked {α : Type} {S : List Nat} : ∀ {xs : List α} {ys : List D}, ys.length = xs.length → (∀ (i : Nat) (x : α), xs[i]? = some x → ∃ y, ys[i]? = some y ∧ ∃ c ∈ S, y = .str [c]) → ∃ cs : List Nat, ys = (cs.map fun c => [c]).map .str ∧ cs.length = xs.length ∧ ∀ c ∈ cs, c ∈ S
  | [], [], _, _ => ⟨[], rfl, rfl, fun _ h => by cases h⟩
  | x :: xs, [], hl, _ => by cases hl
  | [], y :: ys, hl, _ => by cases hl
  | x :: xs, y :: ys, hl, h => by
    obtain ⟨y', e, c, hc, ec⟩ := h 0 x rfl
    injection e with e
    subst e ec
    obtain ⟨cs, e2, h2, h3⟩ := picked (xs := xs) (ys := ys) (by simpa using hl) fun i z hz => by
      obtain ⟨y', h4, h5⟩ := h (i + 1) z (by simpa using hz)
      exact ⟨y', by simpa using h4, h5⟩
    refine ⟨c :: cs, by rw [e2]; rfl, by simp [h2], fun d hd => ?_⟩
    rcases List.mem_cons.mp hd with rfl | hd
    · exact hc
    · exact h3 d hd
@[simp] theorem getV_ow (d : D) (r : En) : getV (.ow d :: r) 0 = notObj d := eqo rfl
/-- a word of n picked letters -/
theorem h_letters {S : List Nat} {step : D → M (Option D)} {n : Nat} (hn : n ≤ 1000) (hs : ∀ i : Nat, Hs (step (.int i)) 1 (fun o => ∃ y, o = some y ∧ ∃ c ∈ S, y = .str [c])) :
    Hs (bnd (lcW step ((List.range n).map fun i => .int (i : Nat))) fun ys => lft (joinD (.str []) (.lst ys))) n (fun d => ∃ cs : List Nat, d = .str cs ∧ cs.length = n ∧ ∀ c ∈ cs, c ∈ S) := by
  have h1 := Hs.lc (xs := List.range n) (g := fun i => D.int (i : Nat)) (step := step) (c := 1) (P := fun _ y => ∃ c ∈ S, y = .str [c]) fun i _ => hs i
  rw [List.length_range, Nat.mul_one] at h1
  refine Hs.bnd (d := 0) h1 fun ys ⟨hl, hy⟩ => ?_
  obtain ⟨cs, e, h2, h3⟩ := picked (S := S) (by rw [hl, List.length_range]) hy
  subst e
  have := e_join (ts := cs.map fun c => [c]) (by rw [flat_ones, h2, List.length_range]; omega)
  rw [flat_ones] at this
  exact Hs.lft this ⟨cs, rfl, by rw [h2, List.length_range], h3⟩
theorem cut_from {α : Type} (xs : List α) (k : Nat) : cutD xs (some ((k : Int))) none = xs.drop k := by
  unfold cutD
  rw [HT.sIx_nat, HT.sIx_none, List.take_of_length_le (by rw [List.length_drop]; omega)]
  rcases Nat.le_total k xs.length with h | h
  · rw [Nat.min_eq_left h]
  · rw [Nat.min_eq_right h, List.drop_length, List.drop_of_length_le h]
theorem cut_to {α : Type} (xs : List α) (k : Nat) : cutD xs none (some ((k : Int))) = xs.take k := by
  unfold cutD
  rw [HT.sIx_nat, HT.sIx_none, List.drop_zero, Nat.sub_zero]
  rcases Nat.le_total k xs.length with h | h
  · rw [Nat.min_eq_left h]
  · rw [Nat.min_eq_right h, List.take_length, List.take_of_length_le h]
theorem add_ss {a b : List Nat} (h : a.length + b.length ≤ 1000) : addD (.str a) (.str b) = some (.str (a ++ b)) := if_pos (big_of h)
theorem sl_s {s : List Nat} {lo hi : Option Int} (h : s.length ≤ 1000) : slD lo hi (.str s) = some (.str (cutD s lo hi)) := if_pos (big_of h)
theorem h_names {m : Nat} (hm : m ≤ 26) : Hs (F__law_names [.feed, .int m]) (12 + m) (fun d => ∃ ns : List (List Nat), d = .lst (ns.map .str) ∧ ns.length = m ∧ (∀ s ∈ ns, NmOk s) ∧ ns.Nodup) := by
  unfold F__law_names
  refine Hs.fn ?_
  refine Hs.seqE (ρ' := [.fz .feed, .fz (.int m), .fz (.str abc), .ow (.lst []), .no, .no, .no, .no, .no, .no]) (by simp) ?_
  refine Hs.sset (c := 9) (d := 3 + m) (P := fun d => ∃ cs : List Nat, d = .str cs ∧ 1 ≤ cs.length ∧ cs.length ≤ 8 ∧ ∀ c ∈ cs, c ∈ abc) rfl ?_ ?_
  · conv => arg 1; simp only [xBM_e, xC_e, bnd_ret_e, isT_str, if_true, xLc_e, bnd_bnd_e, xR1_e, xBin_e, xCall_e, xCons_e, xNil_e, xN_e, getS_0, getS_s, lft_some_e]
    refine Hs.bnd (d := 8) (h_draw (by omega) (by omega)) fun d ⟨r, hr, e⟩ => ?_
    subst e
    have e1 : (1 : Int) + (r : Int) = ((1 + r : Nat) : Int) := by omega
    conv => arg 1; simp only [addD_ii, lft_some_e, bnd_ret_e, intD_e, e1, rng0 (show 1 + r ≤ 1000 by omega)]
    refine (h_letters (S := abc) (n := 1 + r) (by omega) fun i => ?_).mono (fun d ⟨cs, e, h1, h2⟩ => ⟨cs, e, by omega, by omega, h2⟩)
    conv => arg 1; simp
    exact Hs.bnd (d := 0) (h_picks (by decide) (by decide)) fun d hd => Hs.ret ⟨d, rfl, hd⟩
  rintro _ ⟨st, rfl, hl1, hl2, habc⟩
  refine Hs.seq (c := 3) (d := m) (P := fun ρ => ∃ a f p : Nat, a < st.length ∧ p ∈ [1, 3, 5, 7, 9, 11, 15, 17] ∧ ρ = [.fz .feed, .fz (.int m), .fz (.str abc), .ow (.lst []), .no, .fz (.str st), .fz (.int a), .fz (.int f), .fz (.int p), .no]) ?_ ?_
  · conv => arg 1; simp [big_of (show st.length ≤ 1000 by omega)]
    refine Hs.bnd (d := 2) (h_draw (by omega) (by omega)) fun d ⟨a, ha, e⟩ => ?_
    subst e
    refine Hs.bnd (d := 1) (h_draw (by omega) (by omega)) fun d ⟨f, hf, e⟩ => ?_
    subst e
    refine Hs.bnd (d := 0) (h_pick (by simp) (by simp)) fun d hd => Hs.ret ?_
    obtain ⟨i, hi, rfl⟩ := steps_in (l := [1, 3, 5, 7, 9, 11, 15, 17]) (by simpa using hd)
    refine ⟨_, rfl, a, f, i.toNat, by omega, ?_, ?_⟩
    · simp at hi
      rcases hi with rfl | rfl | rfl | rfl | rfl | rfl | rfl | rfl <;> decide
    · simp at hi
      rcases hi with rfl | rfl | rfl | rfl | rfl | rfl | rfl | rfl <;> rfl
  rintro ρ ⟨a, f, p, ha, hp, rfl⟩
  have hp100 : p ≤ 100 := by simp at hp; omega
  refine Hs.seq (c := m) (d := 0) (P := fun ρ => ∃ (ns : List (List Nat)) (y4 y9 : Sl), (∀ s ∈ ns, NmOk s) ∧ ns.map (·.getD a 0) = (List.range m).map (ltr f p) ∧ ρ = [.fz .feed, .fz (.int m), .fz (.str abc), .ow (.lst (ns.map .str)), y4, .fz (.str st), .fz (.int a), .fz (.int f), .fz (.int p), y9]) ?_ ?_
  · conv => arg 1; simp [rng0 (show m ≤ 1000 by omega)]
    have h1 := Hs.forW (c := 1) (xs := (List.range m).map fun i => D.int (i : Nat)) (g := gN 4) (R := fun _ => False) (b := sSeq (sSet 9 (xIf (xTb (xBin gtDo (xCall F__law_draw (xCons (xN 0) (xCons (xC (.int 3)) xNil))) (xC (.int 0)))) (xSl (xN 5) (xO1 (xBin addD (xN 6) (xC (.int 1)))) xO0) (xC (.str [])))) (sApp 3 (xBin addD (xBin addD (xSl (xN 5) xO0 (xO1 (xN 6))) (xBin idxD (xN 2) (xBin modD (xBin addD (xN 7) (xBin mulD (xN 8) (xN 4))) (xC (.int 26))))) (xN 9))))
      (I := fun i ρ => ∃ (ns : List (List Nat)) (y4 y9 : Sl), noOb (some y4) = true ∧ noOb (some y9) = true ∧ (∀ s ∈ ns, NmOk s) ∧ ns.map (·.getD a 0) = (List.range i).map (ltr f p) ∧ ρ = [.fz .feed, .fz (.int m), .fz (.str abc), .ow (.lst (ns.map .str)), y4, .fz (.str st), .fz (.int a), .fz (.int f), .fz (.int p), y9]) ?_ 0 _ (Nat.zero_le _) ⟨[], .no, .no, rfl, rfl, (fun _ h => by cases h), rfl, rfl⟩
    · rw [List.drop_zero, List.length_map, List.length_range, Nat.sub_zero, Nat.mul_one] at h1
      refine h1.mono fun ct h => ?_
      rcases h with ⟨ρ', e, ns, y4, y9, _, _, h2, h3, h4⟩ | ⟨d, _, h⟩
      · exact ⟨ρ', e, ns, y4, y9, h2, h3, h4⟩
      · exact h.elim
    · rintro i x ρ hx ⟨ns, y4, y9, n4, n9, h2, h3, rfl⟩
      have hi : i < m := by
        have := (List.getElem?_eq_some_iff.mp hx).1
        simpa using this
      have ex : x = .int (i : Nat) := by
        rw [List.getElem?_map, List.getElem?_range hi] at hx
        exact (Option.some.inj hx).symm
      subst ex
      refine ⟨[.fz .feed, .fz (.int m), .fz (.str abc), .ow (.lst (ns.map .str)), .fz (.int i), .fz (.str st), .fz (.int a), .fz (.int f), .fz (.int p), y9], by simp [n4], ?_⟩
      have hst := big_of (show st.length ≤ 1000 by omega)
      refine Hs.sset (c := 1) (d := 0) (P := fun d => ∃ tl : List Nat, d = .str tl ∧ (tl = [] ∨ tl = st.drop (a + 1))) n9 ?_ ?_
      · conv => arg 1; simp
        refine Hs.bnd (d := 0) (h_draw (by omega) (by omega)) fun d ⟨r, hr, e⟩ => ?_
        subst e
        by_cases hr0 : 0 < r
        · have e1 : ((a : Int) + 1) = ((a + 1 : Nat) : Int) := by omega
          refine Hs.eq (a := .str (st.drop (a + 1))) ?_ ⟨_, rfl, .inr rfl⟩
          have hc := cut_from st (a + 1)
          rw [← e1] at hc
          simp [hr0, sl_s (show st.length ≤ 1000 by omega), hc]
        · exact Hs.eq (a := .str []) (by simp [hr0]) ⟨_, rfl, .inl rfl⟩
      · rintro _ ⟨tl, rfl, htl⟩
        have hns : ns.length = i := by
          have := congrArg List.length h3
          simpa using this
        have htl8 : tl.length ≤ 8 - (a + 1) := by
          rcases htl with rfl | rfl
          · simp
          · rw [List.length_drop]; omega
        have htla : ∀ c ∈ tl, c ∈ abc := by
          rcases htl with rfl | rfl
          · intro c hc; cases hc
          · exact fun c hc => habc c (List.mem_of_mem_drop hc)
        have hta : (st.take a).length = a := by rw [List.length_take]; omega
        have hl := e_ltr f p i hp100
        refine Hs.eq (a := .nx [.fz .feed, .fz (.int m), .fz (.str abc), .ow (.lst ((ns ++ [st.take a ++ [ltr f p i] ++ tl]).map .str)), .fz (.int i), .fz (.str st), .fz (.int a), .fz (.int f), .fz (.int p), .fz (.str tl)]) ?_ (.inl ⟨_, .inl rfl, _, _, _, rfl, rfl, fun s hs => ?_, ?_, rfl⟩)
        · simp [sl_s (show st.length ≤ 1000 by omega), cut_to]
          rw [mul_sm (sm_of (show (p : Int).natAbs ≤ _ by omega))]
          have e3 : ((f : Int) + (p : Int) * (i : Int)) % 26 = ((f + p * i) % 26 : Nat) := by simp
          have hb : ns.length < bigN := Nat.lt_of_le_of_lt (show ns.length ≤ 100 by omega) (by decide)
          simp only [lft_some_e, bnd_ret_e, addD_ii, modD_ii (show (0 : Int) < 26 by decide), e3, abc_at _ (Nat.mod_lt _ (show 0 < 26 by decide))]
          rw [add_ss (by rw [hta]; simp; omega), lft_some_e, bnd_ret_e, add_ss (by rw [List.length_append, hta]; simp; omega), lft_some_e, bnd_ret_e, decide_eq_true hb, chk_t]
          simp [ltr]
        · rcases List.mem_append.mp hs with hs | hs
          · exact h2 s hs
          · rw [List.mem_singleton.mp hs]
            refine ⟨by simp; omega, by simp [hta]; omega, fun c hc => ?_⟩
            rcases List.mem_append.mp hc with hc | hc
            · rcases List.mem_append.mp hc with hc | hc
              · exact habc c (List.mem_of_mem_take hc)
              · rw [List.mem_singleton.mp hc]
                exact ltr_abc f p i
            · exact htla c hc
        · rw [List.map_append, h3, List.range_succ, List.map_append]
          congr 1
          simp [List.getD_eq_getElem?_getD, List.getElem?_append, hta]
  rintro ρ ⟨ns, y4, y9, h1, h2, rfl⟩
  refine Hs.rt (Hs.eq (a := .lst (ns.map .str)) (by simp) ⟨ns, rfl, ?_, h1, ?_⟩)
  · have := congrArg List.length h2
    simpa using this
  · have nd : ((List.range m).map (ltr f p)).Nodup := by
      rw [List.nodup_iff_pairwise_ne, List.pairwise_map]
      refine (List.pairwise_lt_range (n := m)).imp_of_mem fun {x y} hx hy hxy e => ?_
      have hx' := List.mem_range.mp hx
      have hy' := List.mem_range.mp hy
      have := ltr_ne hp (by omega) (by omega) e
      omega
    rw [← h2] at nd
    exact List.Pairwise.of_map _ (fun x y (h : x.getD a 0 ≠ y.getD a 0) e => h (by rw [e])) nd
end Mg
set_option Elab.async false
set_option linter.all false
set_option maxRecDepth 100000
set_option maxHeartbeats 4000000
namespace Mg
open Pu Pg
@[simp] theorem noOb_lst (xs : List D) : noOb (some (.ow (.lst xs))) = true := eqo rfl
theorem listD_s {s : List Nat} (h : s.length ≤ 1000) : listD (.str s) = some (.lst (s.map fun c => .str [c])) := if_pos h
theorem ix_nat {n r : Nat} (h : r < n) : L2.ixN n (r : Int) = some r := by
  unfold L2.ixN
  rw [if_pos (by omega), if_pos (by omega)]
  simp
theorem er_map {α β : Type} (f : α → β) : ∀ (l : List α) (r : Nat), (l.map f).eraseIdx r = (l.eraseIdx r).map f
  | [], r => by simp
  | x :: l, 0 => rfl
  | x :: l, r + 1 => by
    show f x :: (l.map f).eraseIdx r = f x :: (l.eraseIdx r).map f
    rw [er_map f l r]
/-- one row of a table, one to one: signs drawn without being put back -/
theorem h_plain {S : List Nat} (hS : SgOk S) (a2 a3 a4 y5 y6 y7 : Sl) (n5 : noOb (some y5) = true) (n6 : noOb (some y6) = true) (n7 : noOb (some y7) = true) :
    Hs (sSeq (sPar [5, 6] (mOw (xUn listD (xN 1)) (mFz (xC (.str [])) mNil))) (sFor (xR1 (xUn lenD (xN 1))) (gN 7) (sAddPop addD 6 5 (xN 6) (xCall F__law_draw (xCons (xN 0) (xCons (xUn lenD (xV 5)) xNil))))) [.fz .feed, .fz (.str S), a2, a3, a4, y5, y6, y7]) 4
      (fun ct => ∃ ρ', ct = .nx ρ' ∧ ∃ (row : List Nat) (z5 z7 : Sl), noOb (some z5) = true ∧ noOb (some z7) = true ∧ row.length = S.length ∧ (∀ c ∈ row, c ∈ S) ∧ ρ' = [.fz .feed, .fz (.str S), a2, a3, a4, z5, .fz (.str row), z7]) := by
  have h4 := hS.hi
  have hb := hS.big
  refine Hs.seqE (ρ' := [.fz .feed, .fz (.str S), a2, a3, a4, .ow (.lst (S.map fun c => .str [c])), .fz (.str []), y7]) ?_ ?_
  · simp [n5, n6, listD_s (show S.length ≤ 1000 by omega)]
  conv => arg 1; simp [hb, rng0 (show S.length ≤ 1000 by omega)]
  have h1 := Hs.forW (c := 1) (xs := (List.range S.length).map fun i => D.int (i : Nat)) (g := gN 7) (R := fun _ => False) (b := sAddPop addD 6 5 (xN 6) (xCall F__law_draw (xCons (xN 0) (xCons (xUn lenD (xV 5)) xNil))))
      (I := fun i ρ => ∃ (left row : List Nat) (z7 : Sl), noOb (some z7) = true ∧ left.length + i = S.length ∧ row.length = i ∧ (∀ c ∈ row, c ∈ S) ∧ (∀ c ∈ left, c ∈ S) ∧ ρ = [.fz .feed, .fz (.str S), a2, a3, a4, .ow (.lst (left.map fun c => .str [c])), .fz (.str row), z7]) ?_ 0 _ (Nat.zero_le _) ⟨S, [], y7, n7, rfl, rfl, (fun _ h => by cases h), (fun _ h => h), rfl⟩
  · rw [List.drop_zero, List.length_map, List.length_range, Nat.sub_zero, Nat.mul_one] at h1
    refine h1.mono fun ct h => ?_
    rcases h with ⟨ρ', e, left, row, z7, n7, _, h2, h3, _, h4⟩ | ⟨d, _, h⟩
    · exact ⟨ρ', e, row, _, z7, rfl, n7, h2, h3, h4⟩
    · exact h.elim
  · rintro i x ρ hx ⟨left, row, z7, n7, hl, hr, hc, hc2, rfl⟩
    have hi : i < S.length := by
      have := (List.getElem?_eq_some_iff.mp hx).1
      simpa using this
    refine ⟨[.fz .feed, .fz (.str S), a2, a3, a4, .ow (.lst (left.map fun c => .str [c])), .fz (.str row), .fz x], by simp [n7], ?_⟩
    have hlb : left.length < bigN := Nat.lt_of_le_of_lt (show left.length ≤ 100 by omega) (by decide)
    conv => arg 1; unfold sAddPop
    conv => arg 1; simp [hlb]
    refine Hs.bnd (d := 0) (h_draw (by omega) (by omega)) fun d ⟨r, hrr, e⟩ => ?_
    subst e
    have hr' : r < left.length := by omega
    have hg : (left.map fun c => D.str [c])[r]? = some (.str [left[r]]) := by
      rw [List.getElem?_map, List.getElem?_eq_getElem hr']
      rfl
    refine Hs.eq (a := .nx [.fz .feed, .fz (.str S), a2, a3, a4, .ow (.lst ((left.eraseIdx r).map fun c => .str [c])), .fz (.str (row ++ [left[r]])), .fz x]) ?_ (.inl ⟨_, .inl rfl, left.eraseIdx r, row ++ [left[r]], .fz x, rfl, ?_, ?_, ?_, ?_, rfl⟩)
    · simp [ix_nat hr', List.getElem?_eq_getElem hr', add_ss (show row.length + [left[r]].length ≤ 1000 by simp; omega), er_map]
    · rw [List.length_eraseIdx, if_pos hr']; omega
    · simp [hr]
    · intro c hcc
      rcases List.mem_append.mp hcc with h | h
      · exact hc c h
      · rw [List.mem_singleton.mp h]; exact hc2 _ (List.getElem_mem hr')
    · exact fun c h => hc2 c (List.mem_of_mem_eraseIdx h)

theorem h_table {S : List Nat} (hS : SgOk S) : Hs (F__law_table [.feed, .str S]) 17 (fun d => ∃ t, d = tabD t ∧ TbOk t S.length S) := by
  have h2 := hS.lo
  have h4 := hS.hi
  have hb := hS.big
  unfold F__law_table
  refine Hs.fn ?_
  refine Hs.seq (c := 1) (d := 16) (P := fun ρ => ∃ b : Bool, ρ = [.fz .feed, .fz (.str S), .ow (.lst []), .fz (.bl b), .no, .no, .no, .no]) ?_ ?_
  · conv => arg 1; simp
    refine Hs.bnd (d := 0) (h_draw (by omega) (by omega)) fun d ⟨r, hr, e⟩ => ?_
    subst e
    exact Hs.eq (by simp; rfl) ⟨_, rfl, _, rfl⟩
  rintro ρ ⟨b, rfl⟩
  refine Hs.seq (c := 16) (d := 0) (P := fun ρ => ∃ (t : List (List Nat)) (y4 y5 y6 y7 : Sl), TbOk t S.length S ∧ ρ = [.fz .feed, .fz (.str S), .ow (.lst (t.map .str)), .fz (.bl b), y4, y5, y6, y7]) ?_ ?_
  · conv => arg 1; simp only [sFor_e, xR1_e, xUn_e, xN_e, getS_0, getS_s, lft_some_e, bnd_ret_e, bnd_bnd_e, lenD_str hb, intD_e, rng0 (show S.length ≤ 1000 by omega)]
    have h1 := Hs.forW (c := 4) (xs := (List.range S.length).map fun i => D.int (i : Nat)) (g := gN 4) (R := fun _ => False)
      (b := sSeq (sIf (xTr (xN 3)) (sSeq (sPar [5, 6] (mOw (xUn listD (xN 1)) (mFz (xC (.str [])) mNil))) (sFor (xR1 (xUn lenD (xN 1))) (gN 7) (sAddPop addD 6 5 (xN 6) (xCall F__law_draw (xCons (xN 0) (xCons (xUn lenD (xV 5)) xNil)))))) (sSet 6 (xBM .str joinD (xC (.str [])) (xLc [7] (xR1 (xUn lenD (xN 1))) (gN 7) xYes (xCall F__law_pick (xCons (xN 0) (xCons (xN 1) xNil))))))) (sApp 2 (xN 6)))
      (I := fun i ρ => ∃ (t : List (List Nat)) (y4 y5 y6 y7 : Sl), noOb (some y4) = true ∧ noOb (some y5) = true ∧ noOb (some y6) = true ∧ noOb (some y7) = true ∧ t.length = i ∧ (∀ r ∈ t, r.length = S.length ∧ ∀ c ∈ r, c ∈ S) ∧ ρ = [.fz .feed, .fz (.str S), .ow (.lst (t.map .str)), .fz (.bl b), y4, y5, y6, y7]) ?_ 0 _ (Nat.zero_le _) ⟨[], .no, .no, .no, .no, rfl, rfl, rfl, rfl, rfl, (fun _ h => by cases h), rfl⟩
    · rw [List.drop_zero, List.length_map, List.length_range, Nat.sub_zero] at h1
      refine h1.mono (fun ct h => ?_) (by omega)
      rcases h with ⟨ρ', e, t, y4, y5, y6, y7, _, _, _, _, h5, h6, h7⟩ | ⟨d, _, h⟩
      · exact ⟨ρ', e, t, y4, y5, y6, y7, ⟨h5, h2, h4, fun r hr => (h6 r hr).1, fun r hr => (h6 r hr).2⟩, h7⟩
      · exact h.elim
    · rintro i x ρ hx ⟨t, y4, y5, y6, y7, n4, n5, n6, n7, ht, hrow, rfl⟩
      have hi : i < S.length := by
        have := (List.getElem?_eq_some_iff.mp hx).1
        simpa using this
      refine ⟨[.fz .feed, .fz (.str S), .ow (.lst (t.map .str)), .fz (.bl b), .fz x, y5, y6, y7], by simp [n4], ?_⟩
      refine Hs.seq (c := 4) (d := 0) (P := fun ρ' => ∃ (row : List Nat) (z5 z7 : Sl), noOb (some z5) = true ∧ noOb (some z7) = true ∧ row.length = S.length ∧ (∀ c ∈ row, c ∈ S) ∧ ρ' = [.fz .feed, .fz (.str S), .ow (.lst (t.map .str)), .fz (.bl b), .fz x, z5, .fz (.str row), z7]) ?_ ?_
      · cases b with
        | true =>
          rw [if_t (by simp)]
          exact h_plain hS _ _ _ y5 y6 y7 n5 n6 n7
        | false =>
          rw [if_f (by simp)]
          refine (Hs.set (c := 4) (P := fun d => ∃ cs : List Nat, d = .str cs ∧ cs.length = S.length ∧ ∀ c ∈ cs, c ∈ S) n6 ?_).mono fun ct ⟨ρ', e, d, ⟨cs, e2, h5, h6⟩, e3⟩ => ⟨ρ', e, cs, y5, y7, n5, n7, h5, h6, by rw [e3, e2]; rfl⟩
          conv => arg 1; simp only [xBM_e, xC_e, bnd_ret_e, isT_str, if_true, xLc_e, bnd_bnd_e, xR1_e, xUn_e, xN_e, getS_0, getS_s, lft_some_e, lenD_str hb, intD_e, rng0 (show S.length ≤ 1000 by omega)]
          refine (h_letters (S := S) (n := S.length) (by omega) fun i => ?_).mono (fun d h => h)
          conv => arg 1; simp [n7]
          exact Hs.bnd (d := 0) (h_picks (by omega) (by omega)) fun d hd => Hs.ret ⟨d, rfl, hd⟩
      · rintro ρ' ⟨row, z5, z7, n5, n7, h5, h6, rfl⟩
        have hb2 : t.length < bigN := Nat.lt_of_le_of_lt (show t.length ≤ 100 by omega) (by decide)
        refine Hs.eq (a := .nx [.fz .feed, .fz (.str S), .ow (.lst ((t ++ [row]).map .str)), .fz (.bl b), .fz x, z5, .fz (.str row), z7]) (by simp [hb2]) (.inl ⟨_, .inl rfl, t ++ [row], .fz x, z5, .fz (.str row), z7, rfl, n5, rfl, n7, by simp [ht], fun r hr => ?_, rfl⟩)
        rcases List.mem_append.mp hr with h | h
        · exact hrow r h
        · rw [List.mem_singleton.mp h]; exact ⟨h5, h6⟩
  rintro ρ ⟨t, y4, y5, y6, y7, ht, rfl⟩
  exact Hs.rt (Hs.eq (a := tabD t) (by simp [tupleD]; rfl) ⟨t, rfl, ht⟩)
end Mg
set_option Elab.async false
set_option linter.all false
set_option maxRecDepth 100000
set_option maxHeartbeats 4000000
namespace Mg
open Pu Pg
def rbD (b : Bd) : D := .tup [.str b.nm, .int b.wide, .int b.pace]
def rpD (p : Ps) : D := .tup [placeD p.up, placeD p.low, tabD p.tab, .str p.bar]
def rawD (w : Wk) : D := .dic [.inr [115, 105, 103, 110, 115], .inr [98, 97, 110, 100, 115], .inr [112, 114, 101, 115, 115, 101, 115], .inr [112, 108, 97, 99, 101, 115]] [.str w.sg, .lst (w.bands.map rbD), .lst (w.press.map rpD), .lst (w.spots.map placeD)]
@[simp] theorem raw_signs (w : Wk) : idxD (rawD w) (.str [115, 105, 103, 110, 115]) = some (.str w.sg) := eqo rfl
@[simp] theorem raw_bands (w : Wk) : idxD (rawD w) (.str [98, 97, 110, 100, 115]) = some (.lst (w.bands.map rbD)) := eqo rfl
@[simp] theorem raw_presses (w : Wk) : idxD (rawD w) (.str [112, 114, 101, 115, 115, 101, 115]) = some (.lst (w.press.map rpD)) := eqo rfl
@[simp] theorem raw_places (w : Wk) : idxD (rawD w) (.str [112, 108, 97, 99, 101, 115]) = some (.lst (w.spots.map placeD)) := eqo rfl
theorem gTup_rb (gs : List D → En → Option En) (b : Bd) (ρ : En) : gTup 3 gs (rbD b) ρ = gs [.str b.nm, .int b.wide, .int b.pace] ρ := rfl
theorem gTup_rp (gs : List D → En → Option En) (p : Ps) (ρ : En) : gTup 4 gs (rpD p) ρ = gs [placeD p.up, placeD p.low, tabD p.tab, .str p.bar] ρ := rfl
theorem e_made {w : Wk} (h : WkOk w) : F__law_made [rawD w] = ret (workD w) := by
  unfold F__law_made
  refine fn_rt ?_
  refine (seq_set (.lst (w.bands.map bandD)) rfl ?_).trans ?_
  · simp
    rw [lcW_map (f := bandD)]
    · rfl
    · intro b hb
      simp [gTup_rb, e_Band (h.bd b hb)]
  · refine ret_rt ?_
    simp
    rw [lcW_map (f := pressD)]
    · simp [e_Work h]
    · intro p hp
      have h1 := h.place (h.up p hp)
      have h2 := h.place (h.low p hp)
      simp [gTup_rp, e_Press h1.1 h1.2 h2.1 h2.2 (h.tab p hp) h.sg.abc (h.bar p hp)]
end Mg
set_option Elab.async false
set_option linter.all false
set_option maxRecDepth 100000
set_option maxHeartbeats 4000000
namespace Mg
open Pu Pg
def spotsB (bs : List Bd) : List Pl := bs.flatMap fun b => (List.range b.wide).map fun k => (b.nm, k)
theorem spotsB_len (bs : List Bd) : (spotsB bs).length = (bs.map (·.wide)).sum := by
  unfold spotsB
  rw [List.length_flatMap]
  congr 1
  simp
theorem spotsB_snoc (bs : List Bd) (b : Bd) : spotsB (bs ++ [b]) = spotsB bs ++ (List.range b.wide).map fun k => (b.nm, k) := by
  unfold spotsB
  rw [List.flatMap_append]
  simp
theorem add_ll {a b : List D} (h : a.length + b.length ≤ 1000) : addD (.lst a) (.lst b) = some (.lst (a ++ b)) := if_pos (big_of h)
theorem pow12 : powD (.int 10) (.int 12) = some (.int 1000000000000) := by
  show (if (0 : Int) ≤ 12 ∧ (12 : Int) ≤ 1000 ∧ smI 10 = true then some (D.int (10 ^ (12 : Int).toNat)) else none) = _
  rw [if_pos ⟨by decide, by decide, by decide⟩]
  rfl
def szD (s0 s1 s2 s3 s4 : Nat) : D := .tup [.int s0, .int s1, .int s2, .int s3, .int s4]
def bandBody : SX := (sSeq (sSet 9 (xBin minD (xBin addD (xC (.int 1)) (xCall F__law_draw (xCons (xN 0) (xCons (xBin idxD (xN 1) (xC (.int 2))) xNil)))) (xBin subD (xBin subD (xBin addD (xC (.int 41)) (xN 7)) (xUn lenD (xN 5))) (xUn lenD (xN 3))))) (sSeq (sSet 10 (xBin subD (xBin powD (xC (.int 10)) (xC (.int 12))) (xCall F__law_draw (xCons (xN 0) (xCons (xC (.int 12)) xNil))))) (sSeq (sSet 11 (xCall F__law_pick (xCons (xN 0) (xCons (xLst (xCons (xC (.int 0)) (xCons (xC (.int 1)) (xCons (xC (.int 1)) (xCons (xUn negD (xC (.int 1))) (xCons (xC (.int 2)) (xCons (xN 9) (xCons (xBin addD (xN 9) (xC (.int 1))) (xCons (xUn negD (xC (.int 3))) (xCons (xN 10) (xCons (xBin subD (xC (.int 0)) (xN 10)) xNil))))))))))) xNil)))) (sSeq (sApp 4 (xTup (xCons (xN 8) (xCons (xN 9) (xCons (xN 11) xNil))))) (sSet 5 (xBin addD (xN 5) (xLc [12] (xR1 (xN 9)) (gN 12) xYes (xTup (xCons (xN 8) (xCons (xN 12) xNil))))))))))
def stB (sz : D) (S : List Nat) (names : List (List Nat)) (bs : List Bd) (y7 y8 y9 y10 y11 y12 : Sl) : En := [.fz .feed, .fz sz, .fz (.str S), .fz (.lst (names.map .str)), .ow (.lst (bs.map rbD)), .fz (.lst ((spotsB bs).map placeD)), .ow (.lst []), y7, y8, y9, y10, y11, y12, .no, .no, .no]
theorem h_band {s0 s1 s2 s3 s4 : Nat} (hs2 : 1 ≤ s2) (hs2' : s2 ≤ 12) {S : List Nat} {names : List (List Nat)} (hn : names.length ≤ 6) (hnm : ∀ s ∈ names, NmOk s) {i : Nat} {nm : List Nat} (hi : names[i]? = some nm) {bs : List Bd} (hl : bs.length = i)
    (hok : ∀ b ∈ bs, BdOk b ∧ b.wide ≤ s2) (hsum : (bs.map (·.wide)).sum + (names.length - i) ≤ 40) (y9 y10 y11 y12 : Sl) (n9 : noOb (some y9) = true) (n10 : noOb (some y10) = true) (n11 : noOb (some y11) = true) (n12 : noOb (some y12) = true) :
    Hs (bandBody (stB (szD s0 s1 s2 s3 s4) S names bs (.fz (.int i)) (.fz (.str nm)) y9 y10 y11 y12)) 3 (fun ct => ∃ ρ', ct = .nx ρ' ∧ ∃ (b : Bd) (z9 z10 z11 : Sl), b.nm = nm ∧ BdOk b ∧ b.wide ≤ s2 ∧ (bs.map (·.wide)).sum + b.wide + (names.length - (i + 1)) ≤ 40 ∧ noOb (some z9) = true ∧ noOb (some z10) = true ∧ noOb (some z11) = true ∧
      ρ' = stB (szD s0 s1 s2 s3 s4) S names (bs ++ [b]) (.fz (.int i)) (.fz (.str nm)) z9 z10 z11 y12) := by
  have hil : i < names.length := (List.getElem?_eq_some_iff.mp hi).1
  have hlen := spotsB_len bs
  unfold bandBody stB
  refine Hs.sset (c := 1) (d := 2) (P := fun d => ∃ wd : Nat, d = .int wd ∧ 1 ≤ wd ∧ wd ≤ s2 ∧ (bs.map (·.wide)).sum + wd + (names.length - (i + 1)) ≤ 40) n9 ?_ ?_
  · conv => arg 1; simp [szD]
    refine Hs.bnd (d := 0) (h_draw (by omega) (by omega)) fun d ⟨r, hr, e⟩ => ?_
    subst e
    have hr' : r < s2 := by omega
    refine Hs.eq (a := .int (((if 41 + i - (bs.map (·.wide)).sum - names.length < 1 + r then 41 + i - (bs.map (·.wide)).sum - names.length else 1 + r : Nat)) : Int)) ?_ ⟨_, rfl, ?_, ?_, ?_⟩
    · simp [minD, hlen]
      congr 2
      split <;> split <;> omega
    · split <;> omega
    · split <;> omega
    · split <;> omega
  rintro _ ⟨wd, rfl, w1, w2, w3⟩
  refine Hs.sset (c := 1) (d := 1) (P := fun d => ∃ far : Int, d = .int far ∧ 0 ≤ far ∧ far ≤ 1000000000000) n10 ?_ ?_
  · conv => arg 1; simp [pow12]
    refine Hs.bnd (d := 0) (h_draw (by omega) (by omega)) fun d ⟨r, hr, e⟩ => ?_
    subst e
    exact Hs.eq (by simp; rfl) ⟨_, rfl, by omega, by omega⟩
  rintro _ ⟨far, rfl, f0, f1⟩
  refine Hs.sset (c := 1) (d := 0) (P := fun d => ∃ pc : Int, d = .int pc ∧ -1000000000000 ≤ pc ∧ pc ≤ 1000000000000) n11 ?_ ?_
  · conv => arg 1; simp
    refine (h_pick (by simp) (by simp)).mono fun d hd => ?_
    simp at hd
    rcases hd with rfl | rfl | rfl | rfl | rfl | rfl | rfl | rfl | rfl <;> exact ⟨_, rfl, by omega, by omega⟩
  rintro _ ⟨pc, rfl, p0, p1⟩
  have hb1 : bs.length < bigN := Nat.lt_of_le_of_lt (show bs.length ≤ 100 by omega) (by decide)
  have ok : BdOk ⟨nm, wd, pc⟩ := ⟨hnm nm (List.mem_of_getElem? hi), w1, by show wd ≤ 12; omega, p0, p1⟩
  refine Hs.eq (a := .nx (stB (szD s0 s1 s2 s3 s4) S names (bs ++ [⟨nm, wd, pc⟩]) (.fz (.int i)) (.fz (.str nm)) (.fz (.int wd)) (.fz (.int far)) (.fz (.int pc)) y12)) ?_ ⟨_, rfl, ⟨nm, wd, pc⟩, _, _, _, rfl, ok, w2, w3, rfl, rfl, rfl, rfl⟩
  refine (seq_nx (ρ' := stB (szD s0 s1 s2 s3 s4) S names bs (.fz (.int i)) (.fz (.str nm)) (.fz (.int wd)) (.fz (.int far)) (.fz (.int pc)) y12 |>.set 4 (.ow (.lst ((bs ++ [(⟨nm, wd, pc⟩ : Bd)]).map rbD)))) ?_).trans ?_
  · simp [stB, hb1, rbD]
  · refine (set_nx (.lst ((spotsB (bs ++ [(⟨nm, wd, pc⟩ : Bd)])).map placeD)) rfl ?_).trans rfl
    have hr := rng0 (show wd ≤ 1000 by omega)
    simp [stB, hr]
    rw [lcW_map (f := fun k => placeD (nm, k))]
    · simp
      rw [add_ll]
      · rw [spotsB_snoc]
        simp
        rfl
      · simp [hlen]
        omega
    · intro k hk
      simp [n12]
      rfl
end Mg
set_option Elab.async false
set_option linter.all false
set_option maxRecDepth 100000
set_option maxHeartbeats 4000000
namespace Mg
open Pu Pg
theorem h_bands {s0 s1 s2 s3 s4 : Nat} (hs2 : 1 ≤ s2) (hs2' : s2 ≤ 12) {S : List Nat} {names : List (List Nat)} (hn : names.length ≤ 6) (hnm : ∀ s ∈ names, NmOk s) :
    Hs (forW (gTup 2 (gCons (gN 7) (gCons (gN 8) gNil))) bandBody (enumD (names.map .str)) (stB (szD s0 s1 s2 s3 s4) S names [] .no .no .no .no .no .no)) 18 (fun ct => ∃ ρ', ct = .nx ρ' ∧ ∃ (bs : List Bd) (y7 y8 y9 y10 y11 : Sl), bs.map (·.nm) = names ∧ (∀ b ∈ bs, BdOk b ∧ b.wide ≤ s2) ∧ (bs.map (·.wide)).sum ≤ 40 ∧
      ρ' = stB (szD s0 s1 s2 s3 s4) S names bs y7 y8 y9 y10 y11 .no) := by
  have h1 := Hs.forW (c := 3) (xs := enumD (names.map .str)) (g := gTup 2 (gCons (gN 7) (gCons (gN 8) gNil))) (R := fun _ => False) (b := bandBody)
    (I := fun i ρ => ∃ (bs : List Bd) (y7 y8 y9 y10 y11 : Sl), noOb (some y7) = true ∧ noOb (some y8) = true ∧ noOb (some y9) = true ∧ noOb (some y10) = true ∧ noOb (some y11) = true ∧ bs.length = i ∧ bs.map (·.nm) = names.take i ∧ (∀ b ∈ bs, BdOk b ∧ b.wide ≤ s2) ∧ (bs.map (·.wide)).sum + (names.length - i) ≤ 40 ∧
      ρ = stB (szD s0 s1 s2 s3 s4) S names bs y7 y8 y9 y10 y11 .no) ?_ 0 _ (Nat.zero_le _) ⟨[], .no, .no, .no, .no, .no, rfl, rfl, rfl, rfl, rfl, rfl, rfl, (fun _ h => by cases h), by simp; omega, rfl⟩
  · have hl : (enumD (names.map D.str)).length = names.length := by simp [enumD]
    rw [List.drop_zero, hl, Nat.sub_zero] at h1
    refine h1.mono (fun ct h => ?_) (by omega)
    rcases h with ⟨ρ', e, bs, y7, y8, y9, y10, y11, _, _, _, _, _, h2, h3, h4, h5, h6⟩ | ⟨d, _, h⟩
    · exact ⟨ρ', e, bs, y7, y8, y9, y10, y11, by rw [h3, List.take_length], h4, by omega, h6⟩
    · exact h.elim
  · rintro i x ρ hx ⟨bs, y7, y8, y9, y10, y11, n7, n8, n9, n10, n11, h2, h3, h4, h5, rfl⟩
    rw [enum_map, List.getElem?_map] at hx
    have hi : i < names.length := by
      cases q : names.zipIdx[i]? with
      | none => rw [q] at hx; cases hx
      | some z => have := (List.getElem?_eq_some_iff.mp q).1; simpa using this
    have hz : names.zipIdx[i]? = some (names[i], i) := by simp [hi]
    rw [hz] at hx
    have ex : x = .tup [.int (i : Nat), .str names[i]] := (Option.some.inj hx).symm
    subst ex
    refine ⟨stB (szD s0 s1 s2 s3 s4) S names bs (.fz (.int i)) (.fz (.str names[i])) y9 y10 y11 .no, by simp [stB, n7, n8], ?_⟩
    refine (h_band (s0 := s0) (s1 := s1) (s3 := s3) (s4 := s4) (S := S) hs2 hs2' hn hnm (List.getElem?_eq_getElem hi) h2 h4 h5 y9 y10 y11 .no n9 n10 n11 rfl).mono fun ct ⟨ρ', e, b, z9, z10, z11, e1, e2, e3, e4, m9, m10, m11, e5⟩ => .inl ⟨ρ', .inl e, bs ++ [b], _, _, z9, z10, z11, rfl, rfl, m9, m10, m11, by simp [h2], ?_, ?_, ?_, e5⟩
    · rw [List.map_append, h3, List.take_succ, List.getElem?_eq_getElem hi]
      simp [e1]
    · intro c hc
      rcases List.mem_append.mp hc with hc | hc
      · exact h4 c hc
      · rw [List.mem_singleton.mp hc]; exact ⟨e2, e3⟩
    · simp
      omega
def stampBody : SX := (sSeq (sSet 13 (xBM .str joinD (xC (.str [])) (xLc [15] (xR1 (xBin addD (xC (.int 1)) (xCall F__law_draw (xCons (xN 0) (xCons (xBin idxD (xN 1) (xC (.int 4))) xNil))))) (gN 15) xYes (xCall F__law_pick (xCons (xN 0) (xCons (xC (.str [120, 120, 45])) xNil)))))) (sSeq (sSet 14 (xCall F__law_pick (xCons (xN 0) (xCons (xN 5) xNil)))) (sApp 6 (xTup (xCons (xN 14) (xCons (xCall F__law_pick (xCons (xN 0) (xCons (xN 5) xNil))) (xCons (xCall F__law_table (xCons (xN 0) (xCons (xN 2) xNil))) (xCons (xN 13) xNil))))))))
def stC (sz : D) (S : List Nat) (names : List (List Nat)) (bs : List Bd) (ps : List Ps) (y7 y8 y9 y10 y11 y12 y13 y14 : Sl) : En := [.fz .feed, .fz sz, .fz (.str S), .fz (.lst (names.map .str)), .ow (.lst (bs.map rbD)), .fz (.lst ((spotsB bs).map placeD)), .ow (.lst (ps.map rpD)), y7, y8, y9, y10, y11, y12, y13, y14, .no]
theorem h_stamp {s0 s1 s2 s3 s4 : Nat} (hs4 : 1 ≤ s4) (hs4' : s4 ≤ 6) {S : List Nat} (hS : SgOk S) {names : List (List Nat)} {bs : List Bd} (hb0 : 0 < (spotsB bs).length) (hb : (spotsB bs).length ≤ 40) {ps : List Ps} (hps : ps.length ≤ 100) (y7 y8 y9 y10 y11 y12 y13 y14 : Sl) (n13 : noOb (some y13) = true) (n14 : noOb (some y14) = true) :
    Hs (stampBody (stC (szD s0 s1 s2 s3 s4) S names bs ps y7 y8 y9 y10 y11 y12 y13 y14)) 26 (fun ct => ∃ ρ', ct = .nx ρ' ∧ ∃ (p : Ps) (z13 z14 : Sl), p.up ∈ spotsB bs ∧ p.low ∈ spotsB bs ∧ TbOk p.tab S.length S ∧ RhOk p.bar ∧ p.bar.length ≤ s4 ∧ noOb (some z13) = true ∧ noOb (some z14) = true ∧
      ρ' = stC (szD s0 s1 s2 s3 s4) S names bs (ps ++ [p]) y7 y8 y9 y10 y11 y12 z13 z14) := by
  unfold stampBody stC
  refine Hs.sset (c := 7) (d := 19) (P := fun d => ∃ bar : List Nat, d = .str bar ∧ RhOk bar ∧ bar.length ≤ s4) n13 ?_ ?_
  · conv => arg 1; simp only [szD, xBM_e, xC_e, bnd_ret_e, isT_str, if_true, xLc_e, bnd_bnd_e, xR1_e, xBin_e, xCall_e, xCons_e, xNil_e, xN_e, getS_0, getS_s, lft_some_e, idx_t4]
    refine Hs.bnd (d := 6) (h_draw (by omega) (by omega)) fun d ⟨r, hr, e⟩ => ?_
    subst e
    have e1 : (1 : Int) + (r : Int) = ((1 + r : Nat) : Int) := by omega
    conv => arg 1; simp only [addD_ii, lft_some_e, bnd_ret_e, intD_e, e1, rng0 (show 1 + r ≤ 1000 by omega)]
    refine (h_letters (S := [120, 120, 45]) (n := 1 + r) (by omega) fun i => ?_).mono (fun d ⟨cs, e, h1, h2⟩ => ⟨cs, e, ⟨by omega, by omega, fun c hc => ?_⟩, by omega⟩)
    · conv => arg 1; simp
      exact Hs.bnd (d := 0) (h_picks (by decide) (by decide)) fun d hd => Hs.ret ⟨d, rfl, hd⟩
    · have := h2 c hc
      simp at this
      exact this
  rintro _ ⟨bar, rfl, hbar, hbl⟩
  refine Hs.sset (c := 1) (d := 18) (P := fun d => ∃ p ∈ spotsB bs, d = placeD p) n14 ?_ ?_
  · conv => arg 1; simp
    refine (h_pick (by simpa using hb0) (by simp; omega)).mono fun d hd => ?_
    obtain ⟨p, hp, rfl⟩ := List.mem_map.mp hd
    exact ⟨p, hp, rfl⟩
  rintro _ ⟨up, hup, rfl⟩
  conv => arg 1; simp
  refine Hs.bnd (d := 17) (h_pick (by simpa using hb0) (by simp; omega)) fun d hd => ?_
  obtain ⟨low, hlow, rfl⟩ := List.mem_map.mp hd
  refine Hs.bnd (d := 0) (h_table hS) fun d ⟨t, e, ht⟩ => ?_
  subst e
  have hb1 : ps.length < bigN := Nat.lt_of_le_of_lt (show ps.length ≤ 100 by omega) (by decide)
  exact Hs.eq (by simp [hb1]; rfl) ⟨_, rfl, ⟨up, low, t, bar⟩, .fz (.str bar), .fz (placeD up), hup, hlow, ht, hbar, hbl, rfl, rfl, by simp [rpD]⟩

structure RawOk (s0 s1 s2 s3 s4 : Nat) (w : Wk) : Prop where
  ok : WkOk w
  sg : w.sg.length ≤ s0
  bd : w.bands.length ≤ s1
  wd : ∀ b ∈ w.bands, b.wide ≤ s2
  pr : w.press.length ≤ s3
  br : ∀ p ∈ w.press, p.bar.length ≤ s4
theorem h_stamps {s0 s1 s2 s3 s4 : Nat} (hs3 : s3 ≤ 8) (hs4 : 1 ≤ s4) (hs4' : s4 ≤ 6) {S : List Nat} (hS : SgOk S) {names : List (List Nat)} {bs : List Bd} (hb0 : 0 < (spotsB bs).length) (hb : (spotsB bs).length ≤ 40) (y7 y8 y9 y10 y11 : Sl) :
    Hs (sFor (xR1 (xCall F__law_draw (xCons (xN 0) (xCons (xBin addD (xBin idxD (xN 1) (xC (.int 3))) (xC (.int 1))) xNil)))) (gN 12) stampBody (stC (szD s0 s1 s2 s3 s4) S names bs [] y7 y8 y9 y10 y11 .no .no .no)) 209 (fun ct => ∃ ρ', ct = .nx ρ' ∧ ∃ (ps : List Ps) (z12 z13 z14 : Sl), ps.length ≤ s3 ∧ (∀ p ∈ ps, p.up ∈ spotsB bs ∧ p.low ∈ spotsB bs ∧ TbOk p.tab S.length S ∧ RhOk p.bar ∧ p.bar.length ≤ s4) ∧
      ρ' = stC (szD s0 s1 s2 s3 s4) S names bs ps y7 y8 y9 y10 y11 z12 z13 z14) := by
  conv => arg 1; simp [szD, stC]
  refine Hs.bnd (d := 208) (h_draw (by omega) (by omega)) fun d ⟨r, hr, e⟩ => ?_
  subst e
  conv => arg 1; simp [rng0 (show r ≤ 1000 by omega)]
  have h1 := Hs.forW (c := 26) (xs := (List.range r).map fun i => D.int (i : Nat)) (g := gN 12) (R := fun _ => False) (b := stampBody)
    (I := fun i ρ => ∃ (ps : List Ps) (z12 z13 z14 : Sl), noOb (some z12) = true ∧ noOb (some z13) = true ∧ noOb (some z14) = true ∧ ps.length = i ∧ (∀ p ∈ ps, p.up ∈ spotsB bs ∧ p.low ∈ spotsB bs ∧ TbOk p.tab S.length S ∧ RhOk p.bar ∧ p.bar.length ≤ s4) ∧
      ρ = stC (szD s0 s1 s2 s3 s4) S names bs ps y7 y8 y9 y10 y11 z12 z13 z14) ?_ 0 _ (Nat.zero_le _) ⟨[], .no, .no, .no, rfl, rfl, rfl, rfl, (fun _ h => by cases h), rfl⟩
  · rw [List.drop_zero, List.length_map, List.length_range, Nat.sub_zero] at h1
    refine h1.mono (fun ct h => ?_) (by omega)
    rcases h with ⟨ρ', e, ps, z12, z13, z14, _, _, _, h2, h3, h4⟩ | ⟨d, _, h⟩
    · exact ⟨ρ', e, ps, z12, z13, z14, by omega, h3, h4⟩
    · exact h.elim
  · rintro i x ρ hx ⟨ps, z12, z13, z14, n12, n13, n14, h2, h3, rfl⟩
    have hi : i < r := by
      have := (List.getElem?_eq_some_iff.mp hx).1
      simpa using this
    refine ⟨stC (szD s0 s1 s2 s3 s4) S names bs ps y7 y8 y9 y10 y11 (.fz x) z13 z14, by simp [stC, n12], ?_⟩
    refine (h_stamp (s0 := s0) (s1 := s1) (s2 := s2) (s3 := s3) (names := names) hs4 hs4' hS hb0 hb (ps := ps) (by omega) y7 y8 y9 y10 y11 (.fz x) z13 z14 n13 n14).mono fun ct ⟨ρ', e, p, u13, u14, e1, e2, e3, e4, e5, m13, m14, e6⟩ => .inl ⟨ρ', .inl e, ps ++ [p], .fz x, u13, u14, rfl, m13, m14, by simp [h2], fun q hq => ?_, e6⟩
    rcases List.mem_append.mp hq with hq | hq
    · exact h3 q hq
    · rw [List.mem_singleton.mp hq]; exact ⟨e1, e2, e3, e4, e5⟩
theorem h_raw {s0 s1 s2 s3 s4 : Nat} (h0 : 2 ≤ s0) (h0' : s0 ≤ 4) (h1 : 1 ≤ s1) (h1' : s1 ≤ 6) (h2 : 1 ≤ s2) (h2' : s2 ≤ 12) (h3 : s3 ≤ 8) (h4 : 1 ≤ s4) (h4' : s4 ≤ 6) :
    Hs (F__law_raw [.feed, szD s0 s1 s2 s3 s4]) 300 (fun d => ∃ w, RawOk s0 s1 s2 s3 s4 w ∧ d = rawD w) := by
  unfold F__law_raw
  refine Hs.fn ?_
  refine Hs.seq (c := 40) (d := 260) (P := fun ρ => ∃ (S : List Nat) (names : List (List Nat)), SgOk S ∧ S.length ≤ s0 ∧ 1 ≤ names.length ∧ names.length ≤ s1 ∧ (∀ s ∈ names, NmOk s) ∧ names.Nodup ∧ ρ = [.fz .feed, .fz (szD s0 s1 s2 s3 s4), .fz (.str S), .fz (.lst (names.map .str)), .no, .no, .no, .no, .no, .no, .no, .no, .no, .no, .no, .no]) ?_ ?_
  · conv => arg 1; simp [szD]
    refine Hs.bnd (d := 39) (h_draw (by omega) (by omega)) fun d ⟨r, hr, e⟩ => ?_
    subst e
    have e1 : (2 : Int) + (r : Int) = ((2 + r : Nat) : Int) := by omega
    conv => arg 1; simp only [addD_ii, lft_some_e, bnd_ret_e, e1]
    refine Hs.bnd (d := 37) (h_signs (m := 2 + r) (by omega) (by omega)) fun d ⟨S, hS, hl, e⟩ => ?_
    subst e
    refine Hs.bnd (d := 36) (h_draw (by omega) (by omega)) fun d ⟨r2, hr2, e⟩ => ?_
    subst e
    have e2 : (1 : Int) + (r2 : Int) = ((1 + r2 : Nat) : Int) := by omega
    conv => arg 1; simp only [addD_ii, lft_some_e, bnd_ret_e, e2]
    refine Hs.bnd (d := 0) (h_names (m := 1 + r2) (by omega)) fun d ⟨ns, e, hl2, hok, nd⟩ => ?_
    subst e
    exact Hs.ret ⟨_, rfl, S, ns, hS, by omega, by omega, by omega, hok, nd, rfl⟩
  rintro ρ ⟨S, names, hS, hSl, hn1, hn2, hok, nd, rfl⟩
  refine Hs.seqE (ρ' := stB (szD s0 s1 s2 s3 s4) S names [] .no .no .no .no .no .no) (by simp [stB, spotsB]) ?_
  refine Hs.seq (c := 18) (d := 242) (P := fun ρ' => ∃ (bs : List Bd) (y7 y8 y9 y10 y11 : Sl), bs.map (·.nm) = names ∧ (∀ b ∈ bs, BdOk b ∧ b.wide ≤ s2) ∧ (bs.map (·.wide)).sum ≤ 40 ∧ ρ' = stB (szD s0 s1 s2 s3 s4) S names bs y7 y8 y9 y10 y11 .no) ?_ ?_
  · have e : xEnum (xN 3) (stB (szD s0 s1 s2 s3 s4) S names [] .no .no .no .no .no .no) = ret (enumD (names.map .str)) := by simp [stB]
    show Hs (bnd (xEnum (xN 3) (stB (szD s0 s1 s2 s3 s4) S names [] .no .no .no .no .no .no)) fun ds => forW _ _ ds _) _ _
    rw [e]
    exact h_bands h2 h2' (by omega) hok
  rintro ρ ⟨bs, y7, y8, y9, y10, y11, e1, e2, e3, rfl⟩
  have hbl : bs.length = names.length := by rw [← e1, List.length_map]
  have hpos : 0 < (spotsB bs).length := by
    rw [spotsB_len]
    cases bs with
    | nil => simp at hbl; omega
    | cons b bs =>
      have := (e2 b (.head _)).1.lo
      simp
      omega
  refine Hs.seq (c := 209) (d := 0) (P := fun ρ' => ∃ (ps : List Ps) (z12 z13 z14 : Sl), ps.length ≤ s3 ∧ (∀ p ∈ ps, p.up ∈ spotsB bs ∧ p.low ∈ spotsB bs ∧ TbOk p.tab S.length S ∧ RhOk p.bar ∧ p.bar.length ≤ s4) ∧ ρ' = stC (szD s0 s1 s2 s3 s4) S names bs ps y7 y8 y9 y10 y11 z12 z13 z14) ?_ ?_
  · exact h_stamps h3 h4 h4' hS hpos (by rw [spotsB_len]; exact e3) y7 y8 y9 y10 y11
  rintro ρ ⟨ps, z12, z13, z14, e4, e5, rfl⟩
  refine Hs.eq (a := .rt (rawD ⟨S, bs, ps⟩)) ?_ ⟨_, rfl, ⟨S, bs, ps⟩, ⟨⟨hS, by show 1 ≤ bs.length; omega, by show bs.length ≤ 6; omega, fun b hb => (e2 b hb).1, by show (bs.map (·.nm)).Nodup; rw [e1]; exact nd, e3, by show ps.length ≤ 8; omega, fun p hp => (e5 p hp).1, fun p hp => (e5 p hp).2.1, fun p hp => (e5 p hp).2.2.1, fun p hp => (e5 p hp).2.2.2.1⟩, hSl, by show bs.length ≤ s1; omega, fun b hb => (e2 b hb).2, e4, fun p hp => (e5 p hp).2.2.2.2⟩, rfl⟩
  simp [stC]
  rfl
end Mg
set_option Elab.async false
set_option linter.all false
set_option maxRecDepth 100000
set_option maxHeartbeats 4000000
namespace Mg
open Pu Pg
/-! ### counting beats -/
def cnt (P : Nat → Bool) : Nat → Nat
  | 0 => 0
  | n + 1 => cnt P n + if P (n + 1) = true then 1 else 0
theorem cnt_per {P : Nat → Bool} {R : Nat} (h : ∀ t, P (t + R) = P t) : ∀ n, cnt P (R + n) = cnt P R + cnt P n
  | 0 => rfl
  | n + 1 => by
    show cnt P (R + n) + (if P (R + n + 1) = true then 1 else 0) = cnt P R + (cnt P n + if P (n + 1) = true then 1 else 0)
    rw [cnt_per h n, show R + n + 1 = (n + 1) + R by omega, h (n + 1)]
    omega
theorem cnt_mul {P : Nat → Bool} {R : Nat} (h : ∀ t, P (t + R) = P t) (r : Nat) : ∀ q, cnt P (q * R + r) = q * cnt P R + cnt P r
  | 0 => by simp
  | q + 1 => by
    rw [show (q + 1) * R + r = R + (q * R + r) by rw [Nat.add_mul]; omega, cnt_per h, cnt_mul h r q, Nat.add_mul]
    omega
theorem cnt_len (P : Nat → Bool) : ∀ n, (((List.range n).map (· + 1)).filter P).length = cnt P n
  | 0 => rfl
  | n + 1 => by
    rw [List.range_succ, List.map_append, List.filter_append, List.length_append, cnt_len P n]
    show cnt P n + (([n].map (· + 1)).filter P).length = cnt P n + if P (n + 1) = true then 1 else 0
    congr 1
    by_cases hp : P (n + 1) = true <;> simp [hp]
theorem cnt_congr {P Q : Nat → Bool} (h : ∀ t, 1 ≤ t → P t = Q t) : ∀ n, cnt P n = cnt Q n
  | 0 => rfl
  | n + 1 => by
    show cnt P n + _ = cnt Q n + _
    rw [cnt_congr h n, h (n + 1) (by omega)]
theorem cnt_zero {P : Nat → Bool} (h : ∀ t, P t = false) : ∀ n, cnt P n = 0
  | 0 => rfl
  | n + 1 => by
    show cnt P n + _ = 0
    rw [cnt_zero h n, h (n + 1)]
    rfl
theorem cnt_le {P : Nat → Bool} {R r : Nat} (hr : r ≤ R) : ((((List.range R).map (· + 1)).filter P).filter fun x => decide (x ≤ r)).length = cnt P r := by
  have e : ∀ n, (((List.range (r + n)).map (· + 1)).filter P).filter (fun x => decide (x ≤ r)) = ((List.range r).map (· + 1)).filter P := by
    intro n
    induction n with
    | zero =>
      rw [Nat.add_zero, List.filter_eq_self]
      intro x hx
      have h1 := (List.mem_filter.mp hx).1
      obtain ⟨y, hy, rfl⟩ := List.mem_map.mp h1
      have := List.mem_range.mp hy
      simp
      omega
    | succ n ih =>
      rw [show r + (n + 1) = (r + n) + 1 by omega, List.range_succ, List.map_append, List.filter_append, List.filter_append, ih]
      have : (([r + n].map (· + 1)).filter P).filter (fun x => decide (x ≤ r)) = [] := by
        rw [List.filter_eq_nil_iff]
        intro x hx
        have h1 := (List.mem_filter.mp hx).1
        simp at h1
        simp
        omega
      rw [this, List.append_nil]
  obtain ⟨n, rfl⟩ := Nat.exists_eq_add_of_le hr
  rw [e n, cnt_len]
/-- the passes come again -/
theorem beat_per {bar : List Nat} (h : RhOk bar) {R : Nat} (hR : bar.length ∣ R) (t : Nat) : beatB bar ((t + R : Nat) : Int) = beatB bar (t : Int) := by
  obtain ⟨q, rfl⟩ := hR
  unfold beatB
  have e : (((t + bar.length * q : Nat) : Int) - 1) % (bar.length : Int) = ((t : Int) - 1) % (bar.length : Int) := by
    have : (((t + bar.length * q : Nat) : Int) - 1) = ((t : Int) - 1) + (bar.length : Int) * (q : Int) := by
      simp
      omega
    rw [this, Int.add_mul_emod_self_left]
  rw [e]
theorem wh_per {b : Bd} {R : Nat} (hR : b.wide ∣ R) (k : Nat) (t : Nat) : wh b k ((t + R : Nat) : Int) = wh b k (t : Int) := by
  obtain ⟨q, rfl⟩ := hR
  unfold wh
  have : (k : Int) + b.pace * ((t + b.wide * q : Nat) : Int) = ((k : Int) + b.pace * t) + (b.wide : Int) * (b.pace * q) := by
    simp [Int.mul_add]
    rw [Int.mul_left_comm]
    omega
  rw [this, Int.add_mul_emod_self_left]
theorem pass_per {b : Bd} {p : Ps} (hb : RhOk p.bar) (s : Bool) (k t : Nat) : passT b p s k ((t + rnd b p : Nat) : Int) = passT b p s k (t : Int) := by
  unfold passT
  rw [beat_per hb (show p.bar.length ∣ rnd b p from lc_dvd_r _ _), wh_per (show b.wide ∣ rnd b p from lc_dvd_l _ _)]
theorem howMany_cnt {b : Bd} {p : Ps} (ok : BdOk b) (hb : RhOk p.bar) (s : Bool) (k t : Nat) : howMany b p s k (t : Int) = (cnt (fun t => passT b p s k (t : Int)) t : Nat) := by
  have h0 := rnd_pos ok hb
  have hr : t % rnd b p ≤ rnd b p := Nat.le_of_lt (Nat.mod_lt _ h0)
  have e1 : (passL b p s k).length = cnt (fun t => passT b p s k (t : Int)) (rnd b p) := cnt_len _ _
  have e2 : ((passL b p s k).filter fun (x : Nat) => decide ((x : Int) ≤ (t : Int) % (rnd b p : Int))).length = cnt (fun t => passT b p s k (t : Int)) (t % rnd b p) := by
    have : (fun (x : Nat) => decide ((x : Int) ≤ (t : Int) % (rnd b p : Int))) = fun x => decide (x ≤ t % rnd b p) := by
      funext x
      have : (t : Int) % (rnd b p : Int) = ((t % rnd b p : Nat) : Int) := by simp
      rw [this]
      congr 1
      simp
      omega
    rw [this]
    exact cnt_le hr
  unfold howMany
  rw [e1, e2]
  have e3 := cnt_mul (P := fun t => passT b p s k (t : Int)) (R := rnd b p) (fun t => pass_per hb s k t) (t % rnd b p) (t / rnd b p)
  rw [Nat.div_add_mod' t (rnd b p)] at e3
  rw [e3]
  simp
end Mg
set_option Elab.async false
set_option linter.all false
set_option maxRecDepth 100000
set_option maxHeartbeats 4000000
namespace Mg
open Pu Pg
theorem wh_add {b : Bd} (ok : BdOk b) (k : Nat) (t u : Int) : wh b (wh b k t) u = wh b k (t + u) := by
  have h : ((wh b (wh b k t) u : Nat) : Int) = (wh b k (t + u) : Nat) := by
    rw [wh_int ok, wh_int ok, wh_int ok, Int.emod_add_emod, Int.mul_add, Int.add_assoc]
  exact Int.ofNat.inj h
theorem wh_zero {b : Bd} {k : Nat} (hk : k < b.wide) : wh b k 0 = k := by
  unfold wh
  rw [Int.mul_zero, Int.add_zero, Int.emod_eq_of_lt (by omega) (by omega)]
  simp
theorem wh_back {b : Bd} (ok : BdOk b) {k : Nat} (hk : k < b.wide) (t : Int) : wh b (wh b k t) (-t) = k := by
  rw [wh_add ok, Int.add_right_neg, wh_zero hk]
theorem wh_iff {b : Bd} (ok : BdOk b) {k j : Nat} (hk : k < b.wide) (hj : j < b.wide) (t : Int) : wh b k t = j ↔ k = wh b j (-t) := by
  constructor
  · intro e
    rw [← e, wh_back ok hk]
  · intro e
    rw [e, wh_add ok, Int.add_left_neg, wh_zero hj]
def sumR (n : Nat) (f : Nat → Nat) : Nat := ((List.range n).map f).sum
theorem sumR_succ (n : Nat) (f : Nat → Nat) : sumR (n + 1) f = sumR n f + f n := by
  unfold sumR
  rw [List.range_succ, List.map_append, List.sum_append]
  simp
theorem sumR_add (f g : Nat → Nat) : ∀ n, sumR n (fun k => f k + g k) = sumR n f + sumR n g
  | 0 => rfl
  | n + 1 => by
    rw [sumR_succ, sumR_succ, sumR_succ, sumR_add f g n]
    omega
theorem sumR_zero {f : Nat → Nat} : ∀ n, (∀ k, k < n → f k = 0) → sumR n f = 0
  | 0, _ => rfl
  | n + 1, h => by
    rw [sumR_succ, sumR_zero n (fun k hk => h k (by omega)), h n (by omega)]
theorem sumR_one {f : Nat → Nat} {j : Nat} : ∀ n, j < n → f j = 1 → (∀ k, k < n → k ≠ j → f k = 0) → sumR n f = 1
  | 0, h, _, _ => by omega
  | n + 1, h, h1, h2 => by
    rw [sumR_succ]
    by_cases e : j = n
    · rw [sumR_zero n fun k hk => h2 k (by omega) (by omega), ← e, h1]
    · rw [sumR_one n (by omega) h1 fun k hk hne => h2 k (by omega) hne, h2 n (by omega) (by omega)]
/-- at each beat with x just one place of the band passes -/
theorem one_pass {b : Bd} (ok : BdOk b) {p : Ps} {s : Bool} (hn : b.nm = (p.spot s).1) (hw : (p.spot s).2 < b.wide) (t : Int) : sumR b.wide (fun k => if passT b p s k t = true then 1 else 0) = if beatB p.bar t = true then 1 else 0 := by
  have key : ∀ k, k < b.wide → (passT b p s k t = true ↔ beatB p.bar t = true ∧ k = wh b (p.spot s).2 (-t)) := fun k hk => by
    unfold passT
    rw [Bool.and_eq_true, decide_eq_true_iff, ← wh_iff ok hk hw]
    constructor
    · rintro ⟨h1, h2⟩
      exact ⟨h1, congrArg Prod.snd h2⟩
    · rintro ⟨h1, h2⟩
      exact ⟨h1, Prod.ext hn h2⟩
  by_cases hB : beatB p.bar t = true
  · rw [if_pos hB]
    refine sumR_one (j := wh b (p.spot s).2 (-t)) _ (wh_lt ok _ _) ?_ ?_
    · rw [if_pos ((key _ (wh_lt ok _ _)).mpr ⟨hB, rfl⟩)]
    · intro k hk hne
      rw [if_neg (fun h => hne ((key k hk).mp h).2)]
  · rw [if_neg hB]
    refine sumR_zero _ fun k hk => ?_
    rw [if_neg (fun h => hB ((key k hk).mp h).1)]
theorem sum_cnt {b : Bd} (ok : BdOk b) {p : Ps} {s : Bool} (hn : b.nm = (p.spot s).1) (hw : (p.spot s).2 < b.wide) : ∀ T : Nat, sumR b.wide (fun k => cnt (fun t => passT b p s k (t : Int)) T) = cnt (fun t => beatB p.bar (t : Int)) T
  | 0 => sumR_zero _ fun _ _ => rfl
  | T + 1 => by
    have e : (fun k => cnt (fun t => passT b p s k (t : Int)) (T + 1)) = fun k => cnt (fun t => passT b p s k (t : Int)) T + (if passT b p s k ((T + 1 : Nat) : Int) = true then 1 else 0) := rfl
    rw [e, sumR_add, sum_cnt ok hn hw T, one_pass ok hn hw]
    rfl
/-- places of other bands never pass -/
theorem no_pass {b : Bd} {p : Ps} {s : Bool} (hn : b.nm ≠ (p.spot s).1) (k : Nat) (t : Int) : passT b p s k t = false := by
  unfold passT
  rw [decide_eq_false (fun h => hn (congrArg Prod.fst h)), Bool.and_false]
/-- the beats with x up to a last one, as the law counts them -/
def xAt (bar : List Nat) (k : Nat) : Bool := bar.getD k 0 == 120
theorem beat_cnt {bar : List Nat} (h : RhOk bar) (T : Nat) : cnt (fun t => beatB bar (t : Int)) T = T / bar.length * ((List.range bar.length).filter (xAt bar)).length + (((List.range bar.length).filter (xAt bar)).filter fun k => decide (k < T % bar.length)).length := by
  have h0 : 0 < bar.length := h.lo
  have small : ∀ n, n ≤ bar.length → cnt (fun t => beatB bar (t : Int)) n = ((List.range n).filter (xAt bar)).length := by
    intro n
    induction n with
    | zero => intro _; rfl
    | succ n ih =>
      intro hn
      show cnt _ n + _ = _
      rw [ih (by omega), List.range_succ, List.filter_append, List.length_append]
      congr 1
      have : beatB bar ((n + 1 : Nat) : Int) = xAt bar n := by
        unfold beatB xAt
        have : (((n + 1 : Nat) : Int) - 1) % (bar.length : Int) = (n : Int) := by
          rw [show (((n + 1 : Nat) : Int) - 1) = (n : Int) by omega]
          exact Int.emod_eq_of_lt (by omega) (by omega)
        rw [this]
        simp
      show (if beatB bar ((n + 1 : Nat) : Int) = true then 1 else 0) = _
      rw [this]
      by_cases hx : xAt bar n = true <;> simp [hx]
  have e := cnt_mul (P := fun t => beatB bar (t : Int)) (R := bar.length) (fun t => beat_per h (Nat.dvd_refl _) t) (T % bar.length) (T / bar.length)
  rw [Nat.div_add_mod' T bar.length] at e
  rw [e, small _ (Nat.le_refl _), small _ (Nat.le_of_lt (Nat.mod_lt _ h0))]
  congr 1
  have hr : T % bar.length ≤ bar.length := Nat.le_of_lt (Nat.mod_lt _ h0)
  generalize T % bar.length = r at hr
  obtain ⟨n, e⟩ := Nat.exists_eq_add_of_le hr
  rw [e]
  clear e
  induction n with
  | zero =>
    congr 1
    symm
    rw [Nat.add_zero, List.filter_eq_self]
    intro x hx
    have := List.mem_range.mp (List.mem_filter.mp hx).1
    simpa using this
  | succ n ih =>
    rw [ih, show r + (n + 1) = (r + n) + 1 by omega, List.range_succ, List.filter_append, List.filter_append, List.length_append]
    have : ((([r + n] : List Nat).filter (xAt bar)).filter fun k => decide (k < r)) = [] := by
      rw [List.filter_eq_nil_iff]
      intro x hx
      have h1 := (List.mem_filter.mp hx).1
      simp at h1
      simp
      omega
    rw [this]
    simp
end Mg
set_option Elab.async false
set_option linter.all false
set_option maxRecDepth 100000
set_option maxHeartbeats 4000000
namespace Mg
open Pu Pg
theorem fold_min : ∀ (r : List Int) (m : Int), r.foldl min m ∈ m :: r ∧ ∀ y ∈ m :: r, r.foldl min m ≤ y
  | [], m => ⟨.head _, fun y hy => by rw [List.mem_singleton.mp hy]; exact Int.le_refl _⟩
  | x :: r, m => by
    obtain ⟨h1, h2⟩ := fold_min r (min m x)
    rw [List.foldl_cons]
    have h3 := h2 _ (.head _)
    refine ⟨?_, fun y hy => ?_⟩
    · rcases List.mem_cons.mp h1 with h | h
      · rw [h]
        rcases Int.le_total m x with c | c
        · rw [Int.min_eq_left c]; exact .head _
        · rw [Int.min_eq_right c]; exact .tail _ (.head _)
      · exact .tail _ (.tail _ h)
    · rcases List.mem_cons.mp hy with rfl | hy
      · have := Int.min_le_left y x; omega
      · rcases List.mem_cons.mp hy with rfl | hy
        · have := Int.min_le_right m y; omega
        · exact h2 y (.tail _ hy)
theorem mem_passL {b : Bd} {p : Ps} {s : Bool} {k t : Nat} : t ∈ passL b p s k ↔ 1 ≤ t ∧ t ≤ rnd b p ∧ passT b p s k (t : Int) = true := by
  unfold passL
  rw [List.mem_filter]
  constructor
  · rintro ⟨h1, h2⟩
    obtain ⟨y, hy, rfl⟩ := List.mem_map.mp h1
    have := List.mem_range.mp hy
    exact ⟨by omega, by omega, h2⟩
  · rintro ⟨h1, h2, h3⟩
    exact ⟨List.mem_map.mpr ⟨t - 1, List.mem_range.mpr (by omega), by omega⟩, h3⟩
theorem pass_mul {b : Bd} {p : Ps} (hb : RhOk p.bar) (s : Bool) (k t : Nat) : ∀ q : Nat, passT b p s k ((t + q * rnd b p : Nat) : Int) = passT b p s k (t : Int)
  | 0 => by simp
  | q + 1 => by
    rw [show t + (q + 1) * rnd b p = (t + q * rnd b p) + rnd b p by rw [Nat.add_mul]; omega, pass_per hb, pass_mul hb s k t q]
/-- what stands among the later ones -/
theorem mem_later {b : Bd} {p : Ps} (ok : BdOk b) (hb : RhOk p.bar) {s : Bool} {k t : Nat} {u : Int} : u ∈ laterL b p s k (t : Int) ↔ ∃ v : Nat, u = (v : Int) ∧ t < v ∧ v ≤ t / rnd b p * rnd b p + 2 * rnd b p ∧ passT b p s k (v : Int) = true := by
  have h0 := rnd_pos ok hb
  have hq : (t : Int) / (rnd b p : Int) * (rnd b p : Int) = ((t / rnd b p * rnd b p : Nat) : Int) := by simp
  have hle : t / rnd b p * rnd b p ≤ t := Nat.div_mul_le_self t _
  have hlt : t < t / rnd b p * rnd b p + rnd b p := by
    have := Nat.div_add_mod' t (rnd b p)
    have := Nat.mod_lt t h0
    omega
  unfold laterL
  rw [hq]
  have hp : ∀ x : Nat, passT b p s k ((t / rnd b p * rnd b p + x : Nat) : Int) = passT b p s k (x : Int) := fun x => by
    rw [Nat.add_comm, pass_mul hb]
  generalize t / rnd b p * rnd b p = B at hle hlt hp
  rw [List.mem_map]
  constructor
  · rintro ⟨x, hx, rfl⟩
    obtain ⟨h1, h2⟩ := List.mem_filter.mp hx
    have h2 := of_decide_eq_true h2
    rcases List.mem_append.mp h1 with h | h
    · obtain ⟨y, hy, rfl⟩ := List.mem_map.mp h
      obtain ⟨y1, y2, y3⟩ := mem_passL.mp hy
      exact ⟨B + y, by simp, by omega, by omega, by rw [hp]; exact y3⟩
    · obtain ⟨y, hy, rfl⟩ := List.mem_map.mp h
      obtain ⟨y1, y2, y3⟩ := mem_passL.mp hy
      refine ⟨B + (y + rnd b p), by simp; omega, by omega, by omega, ?_⟩
      rw [hp, pass_per hb]
      exact y3
  · rintro ⟨v, rfl, h1, h2, h3⟩
    obtain ⟨x, rfl⟩ := Nat.exists_eq_add_of_le (show B ≤ v by omega)
    rw [hp] at h3
    by_cases hx : x ≤ rnd b p
    · refine ⟨(x : Int), List.mem_filter.mpr ⟨List.mem_append_left _ (List.mem_map.mpr ⟨x, mem_passL.mpr ⟨by omega, hx, h3⟩, rfl⟩), decide_eq_true (by omega)⟩, by simp⟩
    · obtain ⟨y, rfl⟩ := Nat.exists_eq_add_of_le (show rnd b p ≤ x by omega)
      rw [Nat.add_comm, pass_per hb] at h3
      refine ⟨(rnd b p : Int) + (y : Int), List.mem_filter.mpr ⟨List.mem_append_right _ (List.mem_map.mpr ⟨y, mem_passL.mpr ⟨by omega, by omega, h3⟩, rfl⟩), decide_eq_true (by omega)⟩, by simp⟩
/-- the first pass behind a beat -/
theorem next_none {b : Bd} {p : Ps} {s : Bool} {k : Nat} (h : passL b p s k = []) (t : Int) : nextD (laterL b p s k t) = .non := by
  unfold laterL
  rw [h]
  rfl
theorem next_some {b : Bd} {p : Ps} (ok : BdOk b) (hb : RhOk p.bar) {s : Bool} {k : Nat} (h : passL b p s k ≠ []) (t : Nat) : ∃ u : Nat, nextD (laterL b p s k (t : Int)) = .int u ∧ t < u ∧ passT b p s k (u : Int) = true ∧ ∀ v : Nat, t < v → passT b p s k (v : Int) = true → u ≤ v := by
  have h0 := rnd_pos ok hb
  have hle : t / rnd b p * rnd b p ≤ t := Nat.div_mul_le_self t _
  have hlt : t < t / rnd b p * rnd b p + rnd b p := by
    have := Nat.div_add_mod' t (rnd b p)
    have := Nat.mod_lt t h0
    omega
  obtain ⟨x, hx⟩ := List.exists_mem_of_ne_nil _ h
  obtain ⟨x1, x2, x3⟩ := mem_passL.mp hx
  have hm : ((t / rnd b p * rnd b p + (x + rnd b p) : Nat) : Int) ∈ laterL b p s k (t : Int) := (mem_later ok hb).mpr ⟨_, rfl, by omega, by omega, by rw [Nat.add_comm, pass_mul hb, pass_per hb]; exact x3⟩
  cases hl : laterL b p s k (t : Int) with
  | nil => rw [hl] at hm; cases hm
  | cons m r =>
    obtain ⟨h1, h2⟩ := fold_min r m
    rw [← hl] at h1 h2
    obtain ⟨u, e, u1, u2, u3⟩ := (mem_later ok hb).mp h1
    refine ⟨u, by show D.int (r.foldl min m) = _; rw [e], u1, u3, fun v v1 v2 => ?_⟩
    by_cases hv : v ≤ t / rnd b p * rnd b p + 2 * rnd b p
    · have := h2 _ ((mem_later ok hb).mpr ⟨v, rfl, v1, hv, v2⟩)
      omega
    · omega
end Mg
set_option Elab.async false
set_option linter.all false
set_option maxRecDepth 100000
set_option maxHeartbeats 4000000
namespace Mg
open Pu Pg
/-! ### lists of ints compared -/
theorem eqBs_ints : ∀ xs ys : List Int, eqBs (xs.map D.int) (ys.map D.int) = decide (xs = ys)
  | [], [] => by simp [eqBs]
  | [], y :: ys => by simp [eqBs]
  | x :: xs, [] => by simp [eqBs]
  | x :: xs, y :: ys => by
    rw [List.map_cons, List.map_cons, eqBs, eqBs_ints xs ys]
    by_cases h1 : x = y <;> by_cases h2 : xs = ys <;> simp [eqB, h1, h2]
theorem pl_ints (xs : List Int) : plD (.lst (xs.map D.int)) = true := by
  show (xs.map D.int).all (plN 11) = true
  rw [List.all_map]
  exact List.all_eq_true.mpr fun _ _ => rfl
theorem eq_ints (xs ys : List Int) : eqDo (.lst (xs.map D.int)) (.lst (ys.map D.int)) = some (.bl (decide (xs = ys))) := by
  have : eqDo (.lst (xs.map D.int)) (.lst (ys.map D.int)) = if plD (.lst (xs.map D.int)) = true ∧ plD (.lst (ys.map D.int)) = true then some (.bl (eqB (.lst (xs.map D.int)) (.lst (ys.map D.int)))) else none := rfl
  rw [this, if_pos ⟨pl_ints xs, pl_ints ys⟩, eqB, eqBs_ints]
theorem ne_ints (xs ys : List Int) : neDo (.lst (xs.map D.int)) (.lst (ys.map D.int)) = some (.bl (!decide (xs = ys))) := by
  have : neDo (.lst (xs.map D.int)) (.lst (ys.map D.int)) = if plD (.lst (xs.map D.int)) = true ∧ plD (.lst (ys.map D.int)) = true then some (.bl (!eqB (.lst (xs.map D.int)) (.lst (ys.map D.int)))) else none := rfl
  rw [this, if_pos ⟨pl_ints xs, pl_ints ys⟩, eqB, eqBs_ints]
theorem natmap (xs : List Nat) : (xs.map fun (t : Nat) => D.int t) = (xs.map fun (t : Nat) => (t : Int)).map D.int := by
  rw [List.map_map]
  rfl
/-! ### the passes told of a round rise -/
theorem passL_up (b : Bd) (p : Ps) (s : Bool) (k : Nat) : (passL b p s k).Pairwise (· < ·) := by
  unfold passL
  refine List.Pairwise.filter _ ?_
  rw [List.pairwise_map]
  exact (List.pairwise_lt_range (n := rnd b p)).imp fun h => by omega
theorem up_at {l : List Nat} (h : l.Pairwise (· < ·)) {i j : Nat} (hi : i < l.length) (hj : j < l.length) : i < j ↔ l[i] < l[j] := by
  constructor
  · intro hij
    exact List.pairwise_iff_getElem.mp h i j hi hj hij
  · intro hl
    by_cases c : i < j
    · exact c
    · by_cases e : i = j
      · subst e; omega
      · have := List.pairwise_iff_getElem.mp h j i hj hi (by omega)
        omega
/-- the j-th pass behind the beginning of a round -/
def nth (b : Bd) (p : Ps) (s : Bool) (k q j : Nat) : Nat := if j < (passL b p s k).length then q * rnd b p + (passL b p s k).getD j 0 else q * rnd b p + rnd b p + (passL b p s k).getD 0 0
def befo (b : Bd) (p : Ps) (s : Bool) (k q j : Nat) : Nat := match j with | 0 => q * rnd b p | j + 1 => nth b p s k q j
theorem next_nth {b : Bd} {p : Ps} (ok : BdOk b) (hb : RhOk p.bar) {s : Bool} {k : Nat} (h : passL b p s k ≠ []) (q j : Nat) (hj : j ≤ (passL b p s k).length) : nextD (laterL b p s k ((befo b p s k q j : Nat) : Int)) = .int (nth b p s k q j : Nat) := by
  have h0 := rnd_pos ok hb
  have hl : 0 < (passL b p s k).length := List.length_pos_iff.mpr h
  have at_ : ∀ i, i < (passL b p s k).length → (passL b p s k).getD i 0 ∈ passL b p s k := fun i hi => by
    rw [List.getD_eq_getElem?_getD, List.getElem?_eq_getElem hi]
    exact List.getElem_mem hi
  have idx : ∀ x ∈ passL b p s k, ∃ i, i < (passL b p s k).length ∧ (passL b p s k).getD i 0 = x := fun x hx => by
    obtain ⟨i, hi, e⟩ := List.getElem_of_mem hx
    exact ⟨i, hi, by rw [List.getD_eq_getElem?_getD, List.getElem?_eq_getElem hi]; exact e⟩
  have up : ∀ i j, i < (passL b p s k).length → j < (passL b p s k).length → (i < j ↔ (passL b p s k).getD i 0 < (passL b p s k).getD j 0) := fun i j hi hj => by
    rw [List.getD_eq_getElem?_getD, List.getD_eq_getElem?_getD, List.getElem?_eq_getElem hi, List.getElem?_eq_getElem hj]
    exact up_at (passL_up b p s k) hi hj
  obtain ⟨f1, f2, f3⟩ := mem_passL.mp (at_ 0 hl)
  have hper : ∀ x, passT b p s k ((q * rnd b p + x : Nat) : Int) = passT b p s k (x : Int) := fun x => by rw [Nat.add_comm, pass_mul hb]
  -- it is a pass behind, and none stands between
  have c1 : befo b p s k q j < nth b p s k q j := by
    cases j with
    | zero =>
      show q * rnd b p < nth b p s k q 0
      unfold nth
      rw [if_pos hl]
      omega
    | succ j =>
      show nth b p s k q j < nth b p s k q (j + 1)
      unfold nth
      rw [if_pos (show j < (passL b p s k).length by omega)]
      obtain ⟨g1, g2, g3⟩ := mem_passL.mp (at_ j (by omega))
      by_cases hc : j + 1 < (passL b p s k).length
      · rw [if_pos hc]
        have := (up j (j + 1) (by omega) hc).mp (by omega)
        omega
      · rw [if_neg hc]
        omega
  have c2 : passT b p s k ((nth b p s k q j : Nat) : Int) = true := by
    unfold nth
    by_cases hc : j < (passL b p s k).length
    · rw [if_pos hc, hper]
      exact (mem_passL.mp (at_ j hc)).2.2
    · rw [if_neg hc, Nat.add_assoc, hper, Nat.add_comm, pass_per hb]
      exact f3
  have c3 : ∀ v : Nat, befo b p s k q j < v → passT b p s k (v : Int) = true → nth b p s k q j ≤ v := by
    intro v hv hp
    have hq : q * rnd b p ≤ v := by
      refine Nat.le_trans ?_ (Nat.le_of_lt hv)
      cases j with
      | zero => exact Nat.le_refl _
      | succ j =>
        show _ ≤ nth b p s k q j
        unfold nth
        split <;> omega
    obtain ⟨x, rfl⟩ := Nat.exists_eq_add_of_le hq
    rw [hper] at hp
    by_cases hx : x ≤ rnd b p
    · have hx1 : 1 ≤ x := by
        cases j with
        | zero =>
          have hv' : q * rnd b p < q * rnd b p + x := hv
          omega
        | succ j =>
          have hv' : nth b p s k q j < q * rnd b p + x := hv
          unfold nth at hv'
          split at hv' <;> omega
      obtain ⟨i, hi, e⟩ := idx x (mem_passL.mpr ⟨hx1, hx, hp⟩)
      have hij : j ≤ i := by
        cases j with
        | zero => exact Nat.zero_le _
        | succ j =>
          have hv' : nth b p s k q j < q * rnd b p + x := hv
          unfold nth at hv'
          rw [if_pos (show j < (passL b p s k).length by omega)] at hv'
          have := (up j i (by omega) hi).mpr (by omega)
          omega
      unfold nth
      rw [if_pos (by omega)]
      by_cases e2 : j = i
      · subst e2; omega
      · have := (up j i (by omega) hi).mp (by omega)
        omega
    · unfold nth
      by_cases hc : j < (passL b p s k).length
      · rw [if_pos hc]
        have := (mem_passL.mp (at_ j hc)).2.1
        omega
      · rw [if_neg hc]
        obtain ⟨y, rfl⟩ := Nat.exists_eq_add_of_le (show rnd b p ≤ x by omega)
        by_cases hy : y ≤ rnd b p
        · rw [Nat.add_comm, pass_per hb] at hp
          obtain ⟨i, hi, e⟩ := idx y (mem_passL.mpr ⟨by omega, hy, hp⟩)
          by_cases e2 : 0 = i
          · subst e2; omega
          · have := (up 0 i hl hi).mp (by omega)
            omega
        · omega
  obtain ⟨u, e, u1, u2, u3⟩ := next_some ok hb h (befo b p s k q j)
  have := u3 _ c1 c2
  have := c3 u u1 u2
  rw [e]
  congr 2
  omega
end Mg
set_option Elab.async false
set_option linter.all false
set_option maxRecDepth 100000
set_option maxHeartbeats 4000000
namespace Mg
open Pu Pg
/-! ### all places, with their bands -/
def pairs (bs : List Bd) : List (Bd × Nat) := bs.flatMap fun b => (List.range b.wide).map fun k => (b, k)
def plOf (x : Bd × Nat) : Pl := (x.1.nm, x.2)
theorem spots_pairs (w : Wk) : w.spots = (pairs w.bands).map plOf := by
  unfold Wk.spots pairs
  rw [List.map_flatMap]
  congr 1
  funext b
  rw [List.map_map]
  rfl
theorem mem_pairs {bs : List Bd} {x : Bd × Nat} : x ∈ pairs bs ↔ x.1 ∈ bs ∧ x.2 < x.1.wide := by
  unfold pairs
  rw [List.mem_flatMap]
  constructor
  · rintro ⟨b, hb, h⟩
    obtain ⟨k, hk, rfl⟩ := List.mem_map.mp h
    exact ⟨hb, List.mem_range.mp hk⟩
  · rintro ⟨h1, h2⟩
    exact ⟨x.1, h1, List.mem_map.mpr ⟨x.2, List.mem_range.mpr h2, rfl⟩⟩
theorem sum_filter {α : Type} {p : α → Bool} {f : α → Int} : ∀ {l : List α}, (∀ x ∈ l, p x = false → f x = 0) → ((l.filter p).map f).sum = (l.map f).sum
  | [], _ => rfl
  | x :: l, h => by
    have ih := sum_filter (p := p) (f := f) (l := l) fun y hy => h y (.tail _ hy)
    by_cases hp : p x = true
    · rw [List.filter_cons_of_pos hp, List.map_cons, List.map_cons, List.sum_cons, List.sum_cons, ih]
    · rw [List.filter_cons_of_neg hp, List.map_cons, List.sum_cons, ih, h x (.head _) (by simpa using hp)]
      simp
theorem idx_filter {α β : Type} (d : α) (p : α → Bool) (f : α → β) (l : List α) : ((List.range l.length).filter fun j => p (l.getD j d)).map (fun j => f (l.getD j d)) = (l.filter p).map f := by
  have e : (List.range l.length).map (fun j => l.getD j d) = l := by
    refine List.ext_getElem (by simp) fun j h1 h2 => ?_
    simp [List.getD_eq_getElem?_getD, List.getElem?_eq_getElem h2]
  conv => rhs; rw [← e]
  rw [List.filter_map, List.map_map]
  rfl
theorem sum_flat {f : Bd × Nat → Int} : ∀ bs : List Bd, ((pairs bs).map f).sum = (bs.map fun b => ((List.range b.wide).map fun k => f (b, k)).sum).sum
  | [] => rfl
  | b :: bs => by
    have e : pairs (b :: bs) = ((List.range b.wide).map fun k => (b, k)) ++ pairs bs := rfl
    rw [e, List.map_append, List.sum_append, sum_flat bs, List.map_map]
    rfl
theorem sum_zero {α : Type} {g : α → Int} : ∀ {l : List α}, (∀ x ∈ l, g x = 0) → (l.map g).sum = 0
  | [], _ => rfl
  | x :: l, h => by
    rw [List.map_cons, List.sum_cons, h x (.head _), sum_zero fun y hy => h y (.tail _ hy)]
    rfl
theorem sum_only {g : Bd → Int} : ∀ {bs : List Bd}, (bs.map (·.nm)).Nodup → ∀ {b0 : Bd}, b0 ∈ bs → (∀ b ∈ bs, b.nm ≠ b0.nm → g b = 0) → (bs.map g).sum = g b0
  | [], _, b0, h, _ => by cases h
  | b :: bs, nd, b0, h, hz => by
    rw [List.map_cons, List.nodup_cons] at nd
    rw [List.map_cons, List.sum_cons]
    rcases List.mem_cons.mp h with rfl | h
    · rw [sum_zero fun y hy => hz y (.tail _ hy) fun e => nd.1 (e ▸ List.mem_map.mpr ⟨y, hy, rfl⟩)]
      omega
    · rw [sum_only nd.2 h fun y hy => hz y (.tail _ hy), hz b (.head _) fun e => nd.1 (e ▸ List.mem_map.mpr ⟨b0, h, rfl⟩)]
      omega
theorem sum_nat (n : Nat) (f : Nat → Nat) : ((List.range n).map fun k => ((f k : Nat) : Int)).sum = ((sumR n f : Nat) : Int) := by
  unfold sumR
  generalize List.range n = l
  induction l with
  | nil => rfl
  | cons x l ih => simp [ih]
/-- all passes of all places up to T are the beats with x -/
theorem all_passes {w : Wk} (h : WkOk w) {p : Ps} (hp : p ∈ w.press) (s : Bool) (T : Nat) : ((pairs w.bands).map fun x => howMany x.1 p s x.2 (T : Int)).sum = ((cnt (fun t => beatB p.bar (t : Int)) T : Nat) : Int) := by
  obtain ⟨b0, hb0, e0, k0⟩ := mem_spots.mp (spot_in h hp s)
  have hbar := h.bar p hp
  rw [sum_flat, sum_only h.nd hb0]
  · have e : ((List.range b0.wide).map fun k => howMany b0 p s k (T : Int)) = (List.range b0.wide).map fun k => ((cnt (fun t => passT b0 p s k (t : Int)) T : Nat) : Int) := List.map_congr_left fun k _ => howMany_cnt (h.bd b0 hb0) hbar s k T
    show ((List.range b0.wide).map fun k => howMany b0 p s k (T : Int)).sum = _
    rw [e, sum_nat, sum_cnt (h.bd b0 hb0) e0 k0]
  · intro b hb hne
    refine sum_zero fun k _ => ?_
    show howMany b p s k (T : Int) = 0
    rw [howMany_cnt (h.bd b hb) hbar, cnt_zero fun t => no_pass (by rw [← e0]; exact hne) k _]
    rfl
theorem howMany_other {w : Wk} (h : WkOk w) {p : Ps} (hp : p ∈ w.press) (s : Bool) (T : Nat) {b : Bd} (hb : b ∈ w.bands) (hne : b.nm ≠ (p.spot s).1) (k : Nat) : howMany b p s k (T : Int) = 0 := by
  rw [howMany_cnt (h.bd b hb) (h.bar p hp), cnt_zero fun t => no_pass hne k _]
  rfl
end Mg
set_option Elab.async false
set_option linter.all false
set_option maxRecDepth 100000
set_option maxHeartbeats 4000000
namespace Mg
open Pu Pg
/-! ### (beat, place) pairs sorted -/
def bpD (x : Int × Pl) : D := .tup [.int x.1, placeD x.2]
theorem leD_lt {a b : Int × Pl} (h : a.1 < b.1) : leD (bpD b) (bpD a) = false := by
  have e : leD (bpD b) (bpD a) = !PySem.W.dataLt (toP (bpD a)) (toP (bpD b)) := rfl
  have t : ∀ x : Int × Pl, toP (bpD x) = .tuple [.int x.1, .tuple [.str (Tx.tx x.2.1), .int x.2.2]] := fun x => by
    simp [bpD, placeD, toP, toPs]
  rw [e, t, t, PySem.W.dataLt_pair (by rfl) (by simp [PySem.W.alike, PySem.W.alikeAll])]
  have hne : PySem.PyData.eqv (.int a.1) (.int b.1) = false := by
    simp [PySem.PyData.eqv]
    omega
  rw [hne]
  have hlt : PySem.W.dataLt (.int a.1) (.int b.1) = true := by
    rw [PySem.W.dataLt_int]
    exact decide_eq_true h
  simp [hlt]
theorem leD_total : PySem.W.TotalLe leD := by
  unfold leD PySem.W.dataLe
  exact PySem.W.sortLe_total _ _ _
theorem sorted_head {l : List (Int × Pl)} {x0 : Int × Pl} (hx : x0 ∈ l) (nd : l.Nodup) (hm : ∀ y ∈ l, y ≠ x0 → x0.1 < y.1) : ∃ r : List (Int × Pl), (l.map bpD).mergeSort leD = bpD x0 :: r.map bpD ∧ ∀ y ∈ r, y.1 ≠ x0.1 := by
  have p := List.mergeSort_perm (l.map bpD) leD
  have srt := List.pairwise_mergeSort (le := leD) leD_total.trans (fun a b => by rcases leD_total.total a b with h | h <;> simp [h]) (l.map bpD)
  generalize (l.map bpD).mergeSort leD = ms at p srt
  obtain ⟨l', e, pl⟩ : ∃ l' : List (Int × Pl), ms = l'.map bpD ∧ l'.Perm l := by
    have inj : ∀ a b : Int × Pl, bpD a = bpD b → a = b := by
      rintro ⟨a, x, y⟩ ⟨b, u, v⟩ hab
      simp [bpD, placeD] at hab
      obtain ⟨h1, h2, h3⟩ := hab
      rw [h1, h2, show y = v by omega]
    let un : D → Int × Pl := fun d => match d with
      | .tup [.int a, .tup [.str n, .int k]] => (a, n, k.toNat)
      | _ => (0, [], 0)
    have hun : ∀ a : Int × Pl, un (bpD a) = a := by
      rintro ⟨a, x, y⟩
      show (a, x, ((y : Nat) : Int).toNat) = _
      simp
    refine ⟨ms.map un, ?_, ?_⟩
    · rw [List.map_map]
      conv => lhs; rw [← List.map_id ms]
      refine List.map_congr_left fun d hd => ?_
      obtain ⟨a, _, rfl⟩ := List.mem_map.mp (p.mem_iff.mp hd)
      show bpD a = bpD (un (bpD a))
      rw [hun]
    · have := p.map un
      rw [List.map_map] at this
      have e2 : l.map (un ∘ bpD) = l := by
        conv => rhs; rw [← List.map_id l]
        exact List.map_congr_left fun a _ => hun a
      rwa [e2] at this
  subst e
  cases l' with
  | nil =>
    have := pl.mem_iff.mpr hx
    cases this
  | cons y r =>
    have hy : y = x0 := by
      by_cases h : y = x0
      · exact h
      · have hyl : y ∈ l := pl.mem_iff.mp (.head _)
        have hr : x0 ∈ r := by
          rcases List.mem_cons.mp (pl.mem_iff.mpr hx) with h2 | h2
          · exact absurd h2.symm h
          · exact h2
        rw [List.map_cons, List.pairwise_cons] at srt
        have h3 := srt.1 (bpD x0) (List.mem_map.mpr ⟨x0, hr, rfl⟩)
        rw [leD_lt (hm y hyl h)] at h3
        cases h3
    subst hy
    refine ⟨r, rfl, fun z hz e => ?_⟩
    have hnd : (y :: r).Nodup := pl.nodup_iff.mpr nd
    have hzy : z ≠ y := fun e2 => (List.nodup_cons.mp hnd).1 (e2 ▸ hz)
    have := hm z (pl.mem_iff.mp (.tail _ hz)) hzy
    omega
end Mg
set_option Elab.async false
set_option linter.all false
set_option maxRecDepth 100000
set_option maxHeartbeats 4000000
namespace Mg
open Pu Pg
theorem lcW_fm {α : Type} {step : D → M (Option D)} {xs : List α} {g : α → D} (f : α → Option D) (h : ∀ x ∈ xs, step (g x) = ret (f x)) : lcW step (xs.map g) = ret (xs.filterMap f) := by
  induction xs with
  | nil => rfl
  | cons x xs ih =>
    show bnd (step (g x)) (fun o => bnd (lcW step (xs.map g)) fun ys => ret (o.toList ++ ys)) = _
    rw [h x (.head _), ih fun y hy => h y (.tail _ hy)]
    show ret ((f x).toList ++ xs.filterMap f) = _
    congr 1
    cases e : f x with
    | none => rw [List.filterMap_cons_none e]; rfl
    | some y => rw [List.filterMap_cons_some e]; rfl
/-- the first pass of k behind t, if there is one -/
def nxt (b : Bd) (p : Ps) (s : Bool) (k t : Nat) : Option Int := match laterL b p s k (t : Int) with | [] => none | m :: r => some (r.foldl min m)
theorem nextD_nxt (b : Bd) (p : Ps) (s : Bool) (k t : Nat) : nextD (laterL b p s k (t : Int)) = match nxt b p s k t with | none => .non | some u => .int u := by
  unfold nxt nextD
  cases laterL b p s k (t : Int) <;> rfl
def firsts (b : Bd) (p : Ps) (s : Bool) (t : Nat) : List (Int × Pl) := (List.range b.wide).filterMap fun k => (nxt b p s k t).map fun u => (u, (b.nm, k))
theorem mem_firsts {b : Bd} {p : Ps} {s : Bool} {t : Nat} {x : Int × Pl} : x ∈ firsts b p s t ↔ ∃ k, k < b.wide ∧ nxt b p s k t = some x.1 ∧ x.2 = (b.nm, k) := by
  unfold firsts
  rw [List.mem_filterMap]
  constructor
  · rintro ⟨k, hk, h⟩
    cases e : nxt b p s k t with
    | none => rw [e] at h; cases h
    | some u =>
      rw [e] at h
      cases h
      exact ⟨k, List.mem_range.mp hk, e, rfl⟩
  · rintro ⟨k, hk, h1, h2⟩
    refine ⟨k, List.mem_range.mpr hk, ?_⟩
    rw [h1, ← h2]
    rfl
theorem firsts_nodup (b : Bd) (p : Ps) (s : Bool) (t : Nat) : (firsts b p s t).Nodup := by
  unfold firsts
  rw [List.nodup_iff_pairwise_ne, List.pairwise_filterMap]
  refine (List.pairwise_lt_range (n := b.wide)).imp fun {a c} hac x hx y hy e => ?_
  cases e1 : nxt b p s a t with
  | none => rw [e1] at hx; cases hx
  | some u =>
    cases e2 : nxt b p s c t with
    | none => rw [e2] at hy; cases hy
    | some v =>
      rw [e1] at hx
      rw [e2] at hy
      cases hx
      cases hy
      have := congrArg (fun z : Int × Pl => z.2.2) e
      simp at this
      omega
theorem nxt_none {b : Bd} {p : Ps} {s : Bool} {k : Nat} (h : passL b p s k = []) (t : Nat) : nxt b p s k t = none := by
  have := next_none h (t : Int)
  rw [nextD_nxt] at this
  cases e : nxt b p s k t with
  | none => rfl
  | some u => rw [e] at this; cases this
theorem nxt_some {b : Bd} {p : Ps} (ok : BdOk b) (hb : RhOk p.bar) {s : Bool} {k t : Nat} {u : Int} (h : nxt b p s k t = some u) : ∃ v : Nat, u = v ∧ t < v ∧ passT b p s k (v : Int) = true ∧ ∀ z : Nat, t < z → passT b p s k (z : Int) = true → v ≤ z := by
  have hne : passL b p s k ≠ [] := fun e => by rw [nxt_none e] at h; cases h
  obtain ⟨v, e, h1, h2, h3⟩ := next_some ok hb hne t
  rw [nextD_nxt, h] at e
  injection e with e
  exact ⟨v, e, h1, h2, h3⟩
theorem nxt_of {b : Bd} {p : Ps} (ok : BdOk b) (hb : RhOk p.bar) {s : Bool} {k t v : Nat} (h1 : t < v) (h2 : passT b p s k (v : Int) = true) (h3 : ∀ z : Nat, t < z → z < v → passT b p s k (z : Int) = false) : nxt b p s k t = some (v : Int) := by
  have hne : passL b p s k ≠ [] := by
    intro e
    have h0 := rnd_pos ok hb
    -- v, a round lower
    have : ∃ x, 1 ≤ x ∧ x ≤ rnd b p ∧ passT b p s k (x : Int) = true := by
      refine ⟨(v - 1) % rnd b p + 1, by omega, Nat.mod_lt _ h0, ?_⟩
      have e1 : v = ((v - 1) % rnd b p + 1) + ((v - 1) / rnd b p) * rnd b p := by
        have := Nat.div_add_mod' (v - 1) (rnd b p)
        omega
      rw [e1, pass_mul hb] at h2
      exact h2
    obtain ⟨x, x1, x2, x3⟩ := this
    have : x ∈ passL b p s k := mem_passL.mpr ⟨x1, x2, x3⟩
    rw [e] at this
    cases this
  obtain ⟨u, e, u1, u2, u3⟩ := next_some ok hb hne t
  have hle := u3 v h1 h2
  have : ¬ u < v := fun hlt => by rw [h3 u u1 hlt] at u2; cases u2
  rw [nextD_nxt] at e
  cases e3 : nxt b p s k t with
  | none => rw [e3] at e; cases e
  | some z =>
    rw [e3] at e
    injection e with e
    rw [e]
    congr 2
    omega
/-- of all the first passes the earliest is the one at the first beat with x -/
theorem firsts_min {b : Bd} {p : Ps} (ok : BdOk b) (hb : RhOk p.bar) {s : Bool} (hn : b.nm = (p.spot s).1) (hw : (p.spot s).2 < b.wide) {t U : Nat} (hU : t < U) (hB : beatB p.bar (U : Int) = true) (hno : ∀ v : Nat, t < v → v < U → beatB p.bar (v : Int) = false) :
    ((U : Int), (b.nm, wh b (p.spot s).2 (-(U : Int)))) ∈ firsts b p s t ∧ ∀ y ∈ firsts b p s t, y ≠ ((U : Int), (b.nm, wh b (p.spot s).2 (-(U : Int)))) → (U : Int) < y.1 := by
  have hp0 : passT b p s (wh b (p.spot s).2 (-(U : Int))) (U : Int) = true := by
    unfold passT
    rw [hB, Bool.true_and]
    refine decide_eq_true (Prod.ext hn ?_)
    exact (wh_iff ok (wh_lt ok _ _) hw _).mpr rfl
  have hnb : ∀ k v, beatB p.bar v = false → passT b p s k v = false := fun k v h => by
    unfold passT
    rw [h, Bool.false_and]
  constructor
  · exact mem_firsts.mpr ⟨_, wh_lt ok _ _, nxt_of ok hb hU hp0 fun z z1 z2 => hnb _ _ (hno z z1 z2), rfl⟩
  · intro y hy hne
    obtain ⟨k, hk, h1, h2⟩ := mem_firsts.mp hy
    obtain ⟨v, e, v1, v2, v3⟩ := nxt_some ok hb h1
    have hbv : beatB p.bar (v : Int) = true := by
      cases hq : beatB p.bar (v : Int) with
      | true => rfl
      | false => rw [hnb k _ hq] at v2; cases v2
    have hge : ¬ v < U := fun hlt => by rw [hno v v1 hlt] at hbv; cases hbv
    have hneq : v ≠ U := by
      rintro rfl
      apply hne
      have hk2 : k = wh b (p.spot s).2 (-(v : Int)) := by
        refine (wh_iff ok hk hw _).mp ?_
        unfold passT at v2
        exact congrArg Prod.snd (of_decide_eq_true (Bool.and_eq_true_iff.mp v2).2)
      obtain ⟨y1, y2⟩ := y
      simp only at e h2
      rw [e, h2, hk2]
    rw [e]
    omega
end Mg
set_option Elab.async false
set_option linter.all false
set_option maxRecDepth 100000
set_option maxHeartbeats 4000000
namespace Mg
open Pu Pg
@[simp] theorem ninDo_c (c : Nat) (t : List Nat) : ninDo (.str [c]) (.str t) = some (.bl (!decide (c ∈ t))) := eqo rfl
@[simp] theorem ix_bp0 (x : Int × Pl) : idxD (bpD x) (.int 0) = some (.int x.1) := idx_t0 _ _
@[simp] theorem ix_bp1 (x : Int × Pl) : idxD (bpD x) (.int 1) = some (placeD x.2) := idx_t1 _ _ _
theorem pl_bp {x : Int × Pl} (h : cpsOk x.2.1 = true) (k : Nat) : plN (k + 2) (bpD x) = true := by
  simp [bpD, placeD, plN, h]
theorem srt_bp {l : List (Int × Pl)} (hc : ∀ x ∈ l, cpsOk x.2.1 = true) : sortD (.lst (l.map bpD)) = some (.lst ((l.map bpD).mergeSort leD)) := by
  refine if_pos ?_
  unfold srtOk
  have h1 : (l.map bpD).all (plN 6) = true := by
    rw [List.all_map]
    exact List.all_eq_true.mpr fun x hx => pl_bp (hc x hx) 4
  have h2 : ((l.map bpD).all fun x => (l.map bpD).all fun y => alkD x y) = true := by
    rw [List.all_map]
    refine List.all_eq_true.mpr fun x hx => ?_
    show (l.map bpD).all _ = true
    rw [List.all_map]
    refine List.all_eq_true.mpr fun y hy => ?_
    show alkD (bpD x) (bpD y) = true
    simp [alkD, bpD, placeD, toP, toPs, PySem.W.alike, PySem.W.alikeAll]
  have h3 : (l.map bpD).all isTupC = true := by
    rw [List.all_map]
    exact List.all_eq_true.mpr fun x hx => rfl
  rw [h1, h2, h3]
  rfl
theorem eq_lnil {xs : List D} (h : ∀ d ∈ xs, plN 11 d = true) : eqDo (.lst xs) (.lst []) = some (.bl (decide (xs = []))) := by
  have hp : plD (.lst xs) = true := List.all_eq_true.mpr h
  show (if plD (.lst xs) = true ∧ plD (.lst []) = true then some (D.bl (eqB (.lst xs) (.lst []))) else none) = _
  rw [if_pos ⟨hp, by decide⟩]
  cases xs with
  | nil => simp [eqB, eqBs]
  | cons a r => simp [eqB, eqBs]
theorem srt_pl {l : List (Int × Pl)} (hc : ∀ x ∈ l, cpsOk x.2.1 = true) : ∀ d ∈ (l.map bpD).mergeSort leD, plN 11 d = true := by
  intro d hd
  obtain ⟨x, hx, rfl⟩ := List.mem_map.mp ((List.mergeSort_perm _ _).mem_iff.mp hd)
  exact pl_bp (hc x hx) 9
theorem firsts_cps {b : Bd} (h : cpsOk b.nm = true) {p : Ps} {s : Bool} {t : Nat} : ∀ x ∈ firsts b p s t, cpsOk x.2.1 = true := by
  intro x hx
  obtain ⟨k, _, _, e⟩ := mem_firsts.mp hx
  rw [e]
  exact h
theorem cnt_none {P : Nat → Bool} {t : Nat} : ∀ n, (∀ v, t < v → v ≤ t + n → P v = false) → cnt P (t + n) = cnt P t
  | 0, _ => rfl
  | n + 1, h => by
    show cnt P (t + n) + (if P (t + n + 1) = true then 1 else 0) = _
    rw [h (t + n + 1) (by omega) (by omega), cnt_none n fun v h1 h2 => h v h1 (by omega)]
    simp
theorem beat_no {bar : List Nat} (h : RhOk bar) (hx : 120 ∉ bar) (t : Int) : beatB bar t = false := by
  have h1 := h.lo
  have h4 := Int.emod_nonneg (t - 1) (show (bar.length : Int) ≠ 0 by omega)
  have h5 := Int.emod_lt_of_pos (t - 1) (show (0 : Int) < bar.length by omega)
  unfold beatB
  generalize ((t - 1) % (bar.length : Int)).toNat = j at *
  rw [List.getD_eq_getElem?_getD]
  cases hq : bar[j]? with
  | none => rfl
  | some c =>
    have hm := List.mem_of_getElem? hq
    show (c == 120) = false
    exact beq_eq_false_iff_ne.mpr fun e => hx (e ▸ hm)
theorem firsts_nil {b : Bd} {p : Ps} (hb : RhOk p.bar) (hx : 120 ∉ p.bar) (s : Bool) (t : Nat) : firsts b p s t = [] := by
  refine List.eq_nil_iff_forall_not_mem.mpr fun x hm => ?_
  obtain ⟨k, _, h1, _⟩ := mem_firsts.mp hm
  rw [nxt_none] at h1
  · cases h1
  · refine List.eq_nil_iff_forall_not_mem.mpr fun u hu => ?_
    have := (mem_passL.mp hu).2.2
    unfold passT at this
    rw [beat_no hb hx, Bool.false_and] at this
    cases this
end Mg
set_option Elab.async false
set_option linter.all false
set_option maxRecDepth 100000
set_option maxHeartbeats 4000000
namespace K05
open PySem PySem.Spec PyProof.Rows L2 Fd Tx Pu Pg
def topS (i : Nat) : Stmt := PySem.Challenge.pw_bandprint_k05_whole_passes_add_up.main.body.getD i (.Pass ⟨0, 0, 0, 0⟩)
/-- where the defs stand -/
structure Fs where
  k_none : Addr
  C_Band : Addr
  C_Press : Addr
  C_Work : Addr
  f_is_whole : Addr
  d_is_whole : FuncData
  f_is_text_of : Addr
  d_is_text_of : FuncData
  f_is_name : Addr
  d_is_name : FuncData
  f_are_rising : Addr
  d_are_rising : FuncData
  f_are_signs : Addr
  d_are_signs : FuncData
  f_is_place : Addr
  d_is_place : FuncData
  f_is_rhythm : Addr
  d_is_rhythm : FuncData
  f_common_divisor : Addr
  d_common_divisor : FuncData
  f_common_multiple : Addr
  d_common_multiple : FuncData
  f_Band___init__ : Addr
  d_Band___init__ : FuncData
  f_Band_called : Addr
  d_Band_called : FuncData
  f_Band_long : Addr
  d_Band_long : FuncData
  f_Band_pace : Addr
  d_Band_pace : FuncData
  f_is_table : Addr
  d_is_table : FuncData
  f_is_press_place : Addr
  d_is_press_place : FuncData
  f_Press___init__ : Addr
  d_Press___init__ : FuncData
  f_Press_above : Addr
  d_Press_above : FuncData
  f_Press_below : Addr
  d_Press_below : FuncData
  f_Press_table : Addr
  d_Press_table : FuncData
  f_Press_rhythm : Addr
  d_Press_rhythm : FuncData
  f_Press_has_beat : Addr
  d_Press_has_beat : FuncData
  f_are_bands : Addr
  d_are_bands : FuncData
  f_fits : Addr
  d_fits : FuncData
  f_Work___init__ : Addr
  d_Work___init__ : FuncData
  f_Work_presses : Addr
  d_Work_presses : FuncData
  f_Work_has_place : Addr
  d_Work_has_place : FuncData
  f_Work_place_in : Addr
  d_Work_place_in : FuncData
  f_Work_band_of : Addr
  d_Work_band_of : FuncData
  f_need_press : Addr
  d_need_press : FuncData
  f_where : Addr
  d_where : FuncData
  f_passes : Addr
  d_passes : FuncData
  f_how_many_passes : Addr
  d_how_many_passes : FuncData
  f_next_pass : Addr
  d_next_pass : FuncData
  f__law_feed : Addr
  d__law_feed : FuncData
  f__law_draw : Addr
  d__law_draw : FuncData
  f__law_pick : Addr
  d__law_pick : FuncData
  f__law_names : Addr
  d__law_names : FuncData
  f__law_signs : Addr
  d__law_signs : FuncData
  f__law_table : Addr
  d__law_table : FuncData
  f__law_raw : Addr
  d__law_raw : FuncData
  f__law_made : Addr
  d__law_made : FuncData
  f__law_far : Addr
  d__law_far : FuncData
  f__law_beats_with : Addr
  d__law_beats_with : FuncData
  f__law_adds_up : Addr
  d__law_adds_up : FuncData
  f__law_comes_again : Addr
  d__law_comes_again : FuncData
  k_SIDES : Addr
structure Txt (K : PySem.W.Frag) (mg : Str → Option Value) (B : Fs) : Prop where
  F_is_whole : L2.Fun K "is_whole" "is_whole" (topS 16) B.f_is_whole B.d_is_whole
  m_is_whole : mg "is_whole" = some (.ref B.f_is_whole)
  b_is_whole : Binds K B.d_is_whole ["thing", "least", "most"] []
  F_is_text_of : L2.Fun K "is_text_of" "is_text_of" (topS 17) B.f_is_text_of B.d_is_text_of
  m_is_text_of : mg "is_text_of" = some (.ref B.f_is_text_of)
  b_is_text_of : Binds K B.d_is_text_of ["thing", "letters", "least", "most"] []
  F_is_name : L2.Fun K "is_name" "is_name" (topS 18) B.f_is_name B.d_is_name
  m_is_name : mg "is_name" = some (.ref B.f_is_name)
  b_is_name : Binds K B.d_is_name ["thing"] []
  F_are_rising : L2.Fun K "are_rising" "are_rising" (topS 19) B.f_are_rising B.d_are_rising
  m_are_rising : mg "are_rising" = some (.ref B.f_are_rising)
  b_are_rising : Binds K B.d_are_rising ["thing", "least"] []
  F_are_signs : L2.Fun K "are_signs" "are_signs" (topS 20) B.f_are_signs B.d_are_signs
  m_are_signs : mg "are_signs" = some (.ref B.f_are_signs)
  b_are_signs : Binds K B.d_are_signs ["thing"] []
  F_is_place : L2.Fun K "is_place" "is_place" (topS 21) B.f_is_place B.d_is_place
  m_is_place : mg "is_place" = some (.ref B.f_is_place)
  b_is_place : Binds K B.d_is_place ["thing"] []
  F_is_rhythm : L2.Fun K "is_rhythm" "is_rhythm" (topS 22) B.f_is_rhythm B.d_is_rhythm
  m_is_rhythm : mg "is_rhythm" = some (.ref B.f_is_rhythm)
  b_is_rhythm : Binds K B.d_is_rhythm ["thing"] []
  F_common_divisor : L2.Fun K "common_divisor" "common_divisor" (topS 23) B.f_common_divisor B.d_common_divisor
  m_common_divisor : mg "common_divisor" = some (.ref B.f_common_divisor)
  b_common_divisor : Binds K B.d_common_divisor ["one", "other"] []
  F_common_multiple : L2.Fun K "common_multiple" "common_multiple" (topS 24) B.f_common_multiple B.d_common_multiple
  m_common_multiple : mg "common_multiple" = some (.ref B.f_common_multiple)
  b_common_multiple : Binds K B.d_common_multiple ["one", "other"] []
  F_Band___init__ : L2.Fun K "__init__" "Band.__init__" (inClass (topS 31) 0) B.f_Band___init__ B.d_Band___init__
  kb_Band___init__ : KBn K B.d_Band___init__ ["self", "name", "long", "pace"] 3 ["pace"] (fun us ws => us ++ ws) (fun vs zs => vs ++ zs)
  F_Band_called : L2.Fun K "called" "Band.called" (inClass (topS 31) 2) B.f_Band_called B.d_Band_called
  M_Band_called : Meth K B.C_Band "called" B.f_Band_called
  b_Band_called : Binds K B.d_Band_called ["self"] []
  F_Band_long : L2.Fun K "long" "Band.long" (inClass (topS 31) 3) B.f_Band_long B.d_Band_long
  M_Band_long : Meth K B.C_Band "long" B.f_Band_long
  b_Band_long : Binds K B.d_Band_long ["self"] []
  F_Band_pace : L2.Fun K "pace" "Band.pace" (inClass (topS 31) 4) B.f_Band_pace B.d_Band_pace
  M_Band_pace : Meth K B.C_Band "pace" B.f_Band_pace
  b_Band_pace : Binds K B.d_Band_pace ["self"] []
  F_is_table : L2.Fun K "is_table" "is_table" (topS 32) B.f_is_table B.d_is_table
  m_is_table : mg "is_table" = some (.ref B.f_is_table)
  b_is_table : Binds K B.d_is_table ["thing"] []
  F_is_press_place : L2.Fun K "is_press_place" "is_press_place" (topS 33) B.f_is_press_place B.d_is_press_place
  m_is_press_place : mg "is_press_place" = some (.ref B.f_is_press_place)
  b_is_press_place : Binds K B.d_is_press_place ["thing"] []
  F_Press___init__ : L2.Fun K "__init__" "Press.__init__" (inClass (topS 34) 0) B.f_Press___init__ B.d_Press___init__
  kb_Press___init__ : KBn K B.d_Press___init__ ["self", "above", "below", "table", "rhythm"] 4 ["rhythm"] (fun us ws => us ++ ws) (fun vs zs => vs ++ zs)
  F_Press_above : L2.Fun K "above" "Press.above" (inClass (topS 34) 2) B.f_Press_above B.d_Press_above
  M_Press_above : Meth K B.C_Press "above" B.f_Press_above
  b_Press_above : Binds K B.d_Press_above ["self"] []
  F_Press_below : L2.Fun K "below" "Press.below" (inClass (topS 34) 3) B.f_Press_below B.d_Press_below
  M_Press_below : Meth K B.C_Press "below" B.f_Press_below
  b_Press_below : Binds K B.d_Press_below ["self"] []
  F_Press_table : L2.Fun K "table" "Press.table" (inClass (topS 34) 4) B.f_Press_table B.d_Press_table
  M_Press_table : Meth K B.C_Press "table" B.f_Press_table
  b_Press_table : Binds K B.d_Press_table ["self"] []
  F_Press_rhythm : L2.Fun K "rhythm" "Press.rhythm" (inClass (topS 34) 5) B.f_Press_rhythm B.d_Press_rhythm
  M_Press_rhythm : Meth K B.C_Press "rhythm" B.f_Press_rhythm
  b_Press_rhythm : Binds K B.d_Press_rhythm ["self"] []
  F_Press_has_beat : L2.Fun K "has_beat" "Press.has_beat" (inClass (topS 34) 6) B.f_Press_has_beat B.d_Press_has_beat
  M_Press_has_beat : Meth K B.C_Press "has_beat" B.f_Press_has_beat
  b_Press_has_beat : Binds K B.d_Press_has_beat ["self", "beat"] []
  F_are_bands : L2.Fun K "are_bands" "are_bands" (topS 35) B.f_are_bands B.d_are_bands
  m_are_bands : mg "are_bands" = some (.ref B.f_are_bands)
  b_are_bands : Binds K B.d_are_bands ["thing"] []
  F_fits : L2.Fun K "fits" "fits" (topS 36) B.f_fits B.d_fits
  m_fits : mg "fits" = some (.ref B.f_fits)
  b_fits : Binds K B.d_fits ["press", "signs", "longs"] []
  F_Work___init__ : FunD K "__init__" "Work.__init__" (defArgs (inClass (topS 37) 0)) (defBody (inClass (topS 37) 0)) (defScope (inClass (topS 37) 0)) [.ref B.k_none] [] B.f_Work___init__ B.d_Work___init__
  b_Work___init__ : Binds K B.d_Work___init__ ["self", "signs", "bands", "presses"] []
  F_Work_presses : L2.Fun K "presses" "Work.presses" (inClass (topS 37) 5) B.f_Work_presses B.d_Work_presses
  M_Work_presses : Meth K B.C_Work "presses" B.f_Work_presses
  b_Work_presses : Binds K B.d_Work_presses ["self"] []
  F_Work_has_place : L2.Fun K "has_place" "Work.has_place" (inClass (topS 37) 7) B.f_Work_has_place B.d_Work_has_place
  M_Work_has_place : Meth K B.C_Work "has_place" B.f_Work_has_place
  b_Work_has_place : Binds K B.d_Work_has_place ["self", "place"] []
  F_Work_place_in : L2.Fun K "place_in" "Work.place_in" (inClass (topS 37) 8) B.f_Work_place_in B.d_Work_place_in
  M_Work_place_in : Meth K B.C_Work "place_in" B.f_Work_place_in
  b_Work_place_in : Binds K B.d_Work_place_in ["self", "place"] []
  F_Work_band_of : L2.Fun K "band_of" "Work.band_of" (inClass (topS 37) 9) B.f_Work_band_of B.d_Work_band_of
  M_Work_band_of : Meth K B.C_Work "band_of" B.f_Work_band_of
  b_Work_band_of : Binds K B.d_Work_band_of ["self", "name"] []
  F_need_press : L2.Fun K "need_press" "need_press" (topS 38) B.f_need_press B.d_need_press
  m_need_press : mg "need_press" = some (.ref B.f_need_press)
  b_need_press : Binds K B.d_need_press ["work", "number"] []
  F_where : L2.Fun K "where" "where" (topS 42) B.f_where B.d_where
  m_where : mg "where" = some (.ref B.f_where)
  b_where : Binds K B.d_where ["work", "place", "beats"] []
  F_passes : L2.Fun K "passes" "passes" (topS 43) B.f_passes B.d_passes
  m_passes : mg "passes" = some (.ref B.f_passes)
  b_passes : Binds K B.d_passes ["work", "press", "side", "place"] []
  F_how_many_passes : L2.Fun K "how_many_passes" "how_many_passes" (topS 44) B.f_how_many_passes B.d_how_many_passes
  m_how_many_passes : mg "how_many_passes" = some (.ref B.f_how_many_passes)
  kb_how_many_passes : KBn K B.d_how_many_passes ["work", "press", "side", "place", "upto"] 4 ["upto"] (fun us ws => us ++ ws) (fun vs zs => vs ++ zs)
  F_next_pass : FunD K "next_pass" "next_pass" (defArgs (topS 45)) (defBody (topS 45)) (defScope (topS 45)) [] [("behind", .int 0)] B.f_next_pass B.d_next_pass
  m_next_pass : mg "next_pass" = some (.ref B.f_next_pass)
  kb_next_pass : KBn K B.d_next_pass ["work", "press", "side", "place", "behind"] 4 ["behind"] (fun us ws => us ++ ws) (fun vs zs => vs ++ zs)
  F__law_feed : L2.Fun K "_law_feed" "_law_feed" (topS 47) B.f__law_feed B.d__law_feed
  m__law_feed : mg "_law_feed" = some (.ref B.f__law_feed)
  b__law_feed : Binds K B.d__law_feed ["_law_script"] []
  F__law_draw : L2.Fun K "_law_draw" "_law_draw" (topS 48) B.f__law_draw B.d__law_draw
  m__law_draw : mg "_law_draw" = some (.ref B.f__law_draw)
  b__law_draw : Binds K B.d__law_draw ["_law_feed_here", "_law_many"] []
  F__law_pick : L2.Fun K "_law_pick" "_law_pick" (topS 49) B.f__law_pick B.d__law_pick
  m__law_pick : mg "_law_pick" = some (.ref B.f__law_pick)
  b__law_pick : Binds K B.d__law_pick ["_law_feed_here", "_law_some"] []
  F__law_names : L2.Fun K "_law_names" "_law_names" (topS 50) B.f__law_names B.d__law_names
  m__law_names : mg "_law_names" = some (.ref B.f__law_names)
  b__law_names : Binds K B.d__law_names ["_law_feed_here", "_law_many"] []
  F__law_signs : L2.Fun K "_law_signs" "_law_signs" (topS 51) B.f__law_signs B.d__law_signs
  m__law_signs : mg "_law_signs" = some (.ref B.f__law_signs)
  b__law_signs : Binds K B.d__law_signs ["_law_feed_here", "_law_many"] []
  F__law_table : L2.Fun K "_law_table" "_law_table" (topS 52) B.f__law_table B.d__law_table
  m__law_table : mg "_law_table" = some (.ref B.f__law_table)
  b__law_table : Binds K B.d__law_table ["_law_feed_here", "_law_signs_here"] []
  F__law_raw : L2.Fun K "_law_raw" "_law_raw" (topS 53) B.f__law_raw B.d__law_raw
  m__law_raw : mg "_law_raw" = some (.ref B.f__law_raw)
  b__law_raw : Binds K B.d__law_raw ["_law_feed_here", "_law_sizes"] []
  F__law_made : L2.Fun K "_law_made" "_law_made" (topS 54) B.f__law_made B.d__law_made
  m__law_made : mg "_law_made" = some (.ref B.f__law_made)
  b__law_made : Binds K B.d__law_made ["_law_raw_here"] []
  F__law_far : L2.Fun K "_law_far" "_law_far" (topS 55) B.f__law_far B.d__law_far
  m__law_far : mg "_law_far" = some (.ref B.f__law_far)
  b__law_far : Binds K B.d__law_far ["_law_feed_here"] []
  F__law_beats_with : L2.Fun K "_law_beats_with" "_law_beats_with" (topS 56) B.f__law_beats_with B.d__law_beats_with
  m__law_beats_with : mg "_law_beats_with" = some (.ref B.f__law_beats_with)
  b__law_beats_with : Binds K B.d__law_beats_with ["_law_bar", "_law_last"] []
  F__law_adds_up : L2.Fun K "_law_adds_up" "_law_adds_up" (topS 57) B.f__law_adds_up B.d__law_adds_up
  m__law_adds_up : mg "_law_adds_up" = some (.ref B.f__law_adds_up)
  b__law_adds_up : Binds K B.d__law_adds_up ["_law_feed_here", "_law_raw_here", "_law_work", "_law_number", "_law_side"] []
  F__law_comes_again : L2.Fun K "_law_comes_again" "_law_comes_again" (topS 58) B.f__law_comes_again B.d__law_comes_again
  m__law_comes_again : mg "_law_comes_again" = some (.ref B.f__law_comes_again)
  b__law_comes_again : Binds K B.d__law_comes_again ["_law_feed_here", "_law_work", "_law_number", "_law_side", "_law_place"] []
  m_Band : mg "Band" = some (.ref B.C_Band)
  i_Band : C8.InsC K B.C_Band
  mk_Band : Mk K B.C_Band B.f_Band___init__
  n_Band_own_name : NoAttr K B.C_Band "own_name"
  n_Band_size : NoAttr K B.C_Band "size"
  n_Band_speed : NoAttr K B.C_Band "speed"
  m_Press : mg "Press" = some (.ref B.C_Press)
  i_Press : C8.InsC K B.C_Press
  mk_Press : Mk K B.C_Press B.f_Press___init__
  n_Press_upper : NoAttr K B.C_Press "upper"
  n_Press_lower : NoAttr K B.C_Press "lower"
  n_Press_turns : NoAttr K B.C_Press "turns"
  n_Press_marks : NoAttr K B.C_Press "marks"
  m_Work : mg "Work" = some (.ref B.C_Work)
  i_Work : C8.InsC K B.C_Work
  mk_Work : Mk K B.C_Work B.f_Work___init__
  n_Work_marks : NoAttr K B.C_Work "marks"
  n_Work_rings : NoAttr K B.C_Work "rings"
  n_Work_stamps : NoAttr K B.C_Work "stamps"
  n_Work_spots : NoAttr K B.C_Work "spots"
  n_Work_numbers : NoAttr K B.C_Work "numbers"
  g_LETTERS : ∃ u, mg "LETTERS" = some u ∧ RelV (.str "abcdefghijklmnopqrstuvwxyz") u
  g_LONGEST_NAME : ∃ u, mg "LONGEST_NAME" = some u ∧ RelV (.int 8) u
  g_LEAST_SIGNS : ∃ u, mg "LEAST_SIGNS" = some u ∧ RelV (.int 2) u
  g_MOST_SIGNS : ∃ u, mg "MOST_SIGNS" = some u ∧ RelV (.int 4) u
  g_MARKS : ∃ u, mg "MARKS" = some u ∧ RelV (.str "x-") u
  g_WORKS : ∃ u, mg "WORKS" = some u ∧ RelV (.str "x") u
  g_LONGEST_RHYTHM : ∃ u, mg "LONGEST_RHYTHM" = some u ∧ RelV (.int 6) u
  g_LONG : ∃ u, mg "LONG" = some u ∧ RelV (.int 12) u
  g_FAR : ∃ u, mg "FAR" = some u ∧ RelV (.int 1000000000000) u
  g_MOST_BANDS : ∃ u, mg "MOST_BANDS" = some u ∧ RelV (.int 6) u
  g_MOST_PLACES : ∃ u, mg "MOST_PLACES" = some u ∧ RelV (.int 40) u
  g_MOST_PRESSES : ∃ u, mg "MOST_PRESSES" = some u ∧ RelV (.int 8) u
  g_ABOVE : ∃ u, mg "ABOVE" = some u ∧ RelV (.str "above") u
  g_SIDES : ∃ u, mg "SIDES" = some u ∧ RelV (.ref B.k_SIDES) u
  q_SIDES : ∀ H, SqT K H B.k_SIDES [(.str "above"), (.str "below")]
  z_len : mg "len" = none
  z_abs : mg "abs" = none
  z_range : mg "range" = none
  z_isinstance : mg "isinstance" = none
  z_list : mg "list" = none
  z_tuple : mg "tuple" = none
  z_int : mg "int" = none
  z_bool : mg "bool" = none
  z_str : mg "str" = none
  z_all : mg "all" = none
  z_zip : mg "zip" = none
  z_sorted : mg "sorted" = none
  z_sum : mg "sum" = none
  z_min : mg "min" = none
  z_enumerate : mg "enumerate" = none
def clsF (B : Fs) : Nat → Addr
  | 0 => B.C_Band
  | 1 => B.C_Press
  | 2 => B.C_Work
  | _ => 0
def nmsF : Nat → List Str
  | 0 => ["own_name", "size", "speed"]
  | 1 => ["upper", "lower", "turns", "marks"]
  | 2 => ["marks", "rings", "stamps", "spots", "numbers"]
  | _ => []
abbrev Sx (K : PySem.W.Frag) (B : Fs) : Sa := ⟨K, clsF B, nmsF⟩
theorem units65 {k : Nat} {A : Around} (hr : Room k A) : A.units + 65 < cLine := by have := hr.un; omega
section
variable {P : Program} {w : World} {K : PySem.W.Frag} {mg : Str → Option Value} {base : Heap} {B : Fs} {k : Nat}
theorem cl_Band (T : Txt K mg B) : ClsOk (Sx K B) 0 := by
  refine ⟨T.i_Band, (show (nmsF 0).Nodup by decide +kernel), fun f hf => ?_, (show (nmsF 0).length < 1000 by decide)⟩
  have hf' : f = ("own_name" : Str) ∨ f = ("size" : Str) ∨ f = ("speed" : Str) := by
    have : f ∈ (["own_name", "size", "speed"] : List Str) := hf
    simpa using this
  rcases hf' with rfl | rfl | rfl
  · exact T.n_Band_own_name
  · exact T.n_Band_size
  · exact T.n_Band_speed
theorem cl_Press (T : Txt K mg B) : ClsOk (Sx K B) 1 := by
  refine ⟨T.i_Press, (show (nmsF 1).Nodup by decide +kernel), fun f hf => ?_, (show (nmsF 1).length < 1000 by decide)⟩
  have hf' : f = ("upper" : Str) ∨ f = ("lower" : Str) ∨ f = ("turns" : Str) ∨ f = ("marks" : Str) := by
    have : f ∈ (["upper", "lower", "turns", "marks"] : List Str) := hf
    simpa using this
  rcases hf' with rfl | rfl | rfl | rfl
  · exact T.n_Press_upper
  · exact T.n_Press_lower
  · exact T.n_Press_turns
  · exact T.n_Press_marks
theorem cl_Work (T : Txt K mg B) : ClsOk (Sx K B) 2 := by
  refine ⟨T.i_Work, (show (nmsF 2).Nodup by decide +kernel), fun f hf => ?_, (show (nmsF 2).length < 1000 by decide)⟩
  have hf' : f = ("marks" : Str) ∨ f = ("rings" : Str) ∨ f = ("stamps" : Str) ∨ f = ("spots" : Str) ∨ f = ("numbers" : Str) := by
    have : f ∈ (["marks", "rings", "stamps", "spots", "numbers"] : List Str) := hf
    simpa using this
  rcases hf' with rfl | rfl | rfl | rfl | rfl
  · exact T.n_Work_marks
  · exact T.n_Work_rings
  · exact T.n_Work_stamps
  · exact T.n_Work_spots
  · exact T.n_Work_numbers
theorem rep_LETTERS (T : Txt K mg B) : ∀ fd fl H, Rep ((Sx K B).gr fd fl) H c_LETTERS (.str "abcdefghijklmnopqrstuvwxyz") := fun _ _ _ => rep_str.mpr (by decide +kernel)
theorem rep_LONGEST_NAME (T : Txt K mg B) : ∀ fd fl H, Rep ((Sx K B).gr fd fl) H c_LONGEST_NAME (.int 8) := fun _ _ _ => rep_int.mpr rfl
theorem rep_LEAST_SIGNS (T : Txt K mg B) : ∀ fd fl H, Rep ((Sx K B).gr fd fl) H c_LEAST_SIGNS (.int 2) := fun _ _ _ => rep_int.mpr rfl
theorem rep_MOST_SIGNS (T : Txt K mg B) : ∀ fd fl H, Rep ((Sx K B).gr fd fl) H c_MOST_SIGNS (.int 4) := fun _ _ _ => rep_int.mpr rfl
theorem rep_MARKS (T : Txt K mg B) : ∀ fd fl H, Rep ((Sx K B).gr fd fl) H c_MARKS (.str "x-") := fun _ _ _ => rep_str.mpr (by decide +kernel)
theorem rep_WORKS (T : Txt K mg B) : ∀ fd fl H, Rep ((Sx K B).gr fd fl) H c_WORKS (.str "x") := fun _ _ _ => rep_str.mpr (by decide +kernel)
theorem rep_LONGEST_RHYTHM (T : Txt K mg B) : ∀ fd fl H, Rep ((Sx K B).gr fd fl) H c_LONGEST_RHYTHM (.int 6) := fun _ _ _ => rep_int.mpr rfl
theorem rep_LONG (T : Txt K mg B) : ∀ fd fl H, Rep ((Sx K B).gr fd fl) H c_LONG (.int 12) := fun _ _ _ => rep_int.mpr rfl
theorem rep_FAR (T : Txt K mg B) : ∀ fd fl H, Rep ((Sx K B).gr fd fl) H c_FAR (.int 1000000000000) := fun _ _ _ => rep_int.mpr rfl
theorem rep_MOST_BANDS (T : Txt K mg B) : ∀ fd fl H, Rep ((Sx K B).gr fd fl) H c_MOST_BANDS (.int 6) := fun _ _ _ => rep_int.mpr rfl
theorem rep_MOST_PLACES (T : Txt K mg B) : ∀ fd fl H, Rep ((Sx K B).gr fd fl) H c_MOST_PLACES (.int 40) := fun _ _ _ => rep_int.mpr rfl
theorem rep_MOST_PRESSES (T : Txt K mg B) : ∀ fd fl H, Rep ((Sx K B).gr fd fl) H c_MOST_PRESSES (.int 8) := fun _ _ _ => rep_int.mpr rfl
theorem rep_ABOVE (T : Txt K mg B) : ∀ fd fl H, Rep ((Sx K B).gr fd fl) H c_ABOVE (.str "above") := fun _ _ _ => rep_str.mpr (by decide +kernel)
theorem rep_SIDES (T : Txt K mg B) : ∀ fd fl H, Rep ((Sx K B).gr fd fl) H c_SIDES (.ref B.k_SIDES) := fun _ _ H => rep_tup.mpr ⟨_, _, rfl, .inr ⟨rfl, T.q_SIDES H⟩, (.cons (rep_str.mpr (by decide +kernel)) (.cons (rep_str.mpr (by decide +kernel)) .nil))⟩
end
end K05
set_option Elab.async false
set_option linter.all false
set_option maxRecDepth 100000
set_option maxHeartbeats 4000000
namespace K05
open PySem PySem.Spec PyProof.Rows L2 Fd Tx Pu Pg
section
variable {P : Program} {w : World} {K : PySem.W.Frag} {mg : Str → Option Value} {base : Heap} {B : Fs} {k : Nat}
abbrev s_is_whole : Stmt := topS 16
abbrev N_is_whole : List Str := ["thing", "least", "most"]
theorem sc_is_whole : FnScope N_is_whole ["thing", "least", "most"] (defScope s_is_whole) :=
  ⟨rfl, rfl, rfl, by decide +kernel, rfl, by decide +kernel, by decide +kernel⟩
theorem ok_is_whole (T : Txt K mg B) : FnOk P w K mg base CX0 (k + 1) B.f_is_whole B.d_is_whole ["thing", "least", "most"] (spF (Sx K B) 3 F_is_whole) := by
  have nd := sc_is_whole.nd
  refine Fun.pu T.F_is_whole sc_is_whole (fun cdv A outer s H E hr => ?_)
  have hr65 := units65 hr
  exact (yone (yret (xandv (xisi (t := .int) rfl (by rfl) T.z_isinstance (sw (xn (pv 0))) (pe_bltn (by rfl) T.z_int (by decide +kernel) (v := .ty "int") rfl)) (xandv (xnotv (xisi (t := .bool) rfl (by rfl) T.z_isinstance (sw (xn (pv 0))) (pe_bltn (by rfl) T.z_bool (by decide +kernel) (v := .ty "bool") rfl))) (xone (xchain op_leDo op_leDo (sw (xn (pv 1))) (sw (xn (pv 0))) (sw (xn (pv 2)))))))))

abbrev s_is_text_of : Stmt := topS 17
abbrev N_is_text_of : List Str := ["thing", "letters", "least", "most", "letter"]
theorem sc_is_text_of : FnScope N_is_text_of ["thing", "letters", "least", "most"] (defScope s_is_text_of) :=
  ⟨rfl, rfl, rfl, by decide +kernel, rfl, by decide +kernel, by decide +kernel⟩
theorem ok_is_text_of (T : Txt K mg B) : FnOk P w K mg base CX0 (k + 1) B.f_is_text_of B.d_is_text_of ["thing", "letters", "least", "most"] (spF (Sx K B) 4 F_is_text_of) := by
  have nd := sc_is_text_of.nd
  refine Fun.pu T.F_is_text_of sc_is_text_of (fun cdv A outer s H E hr => ?_)
  have hr65 := units65 hr
  exact (ycons (yif (PW.pt (xor (xnot (xttr rfl (sw (xisi (t := .str) rfl (by rfl) T.z_isinstance (sw (xn (pv 0))) (pe_bltn (by rfl) T.z_str (by decide +kernel) (v := .ty "str") rfl))))) (xor1 (xnot (xtchain op_leDo op_leDo (sw (xn (pv 2))) (sw (xcallB1 (cr_lenD rfl) (by rfl) T.z_len (by decide +kernel) (sw (xn (pv 0))))) (sw (xn (pv 3))))))))
      (yone (yret xbl))
      ynil)
    (yone (yret (xcallB1 (cr_allD rfl rfl) (by rfl) T.z_all (by decide +kernel) (sw (fs (xlc (own := [("letter", 4)]) rfl nd (isw (xit rfl (xn (pv 0)))) (blkOk_by (own := [("letter", 4)]) (N := N_is_text_of) (sc := defScope s_is_text_of) (by decide +kernel)) (fun _ _ _ _ _ => (xgn (pg_name (i := 4) nd rfl (.inl rfl) (.inr rfl)))) (fun _ _ _ _ _ => xts0) (fun _ _ _ _ _ => (xcmp (op_inDo rfl hr65) (sw (xn (pv 4))) (sw (xn (pv 1))) rfl)))))))))

abbrev s_is_name : Stmt := topS 18
abbrev N_is_name : List Str := ["thing"]
theorem sc_is_name : FnScope N_is_name ["thing"] (defScope s_is_name) :=
  ⟨rfl, rfl, rfl, by decide +kernel, rfl, by decide +kernel, by decide +kernel⟩
theorem ok_is_name (T : Txt K mg B) : FnOk P w K mg base CX0 (k + 2) B.f_is_name B.d_is_name ["thing"] (spF (Sx K B) 1 F_is_name) := by
  have nd := sc_is_name.nd
  have G_is_text_of : FnOk P w K mg base CX0 (k + 1) B.f_is_text_of B.d_is_text_of ["thing", "letters", "least", "most"] (spF (Sx K B) 4 F_is_text_of) := ok_is_text_of (k := k + 0) T
  refine Fun.pu T.F_is_name sc_is_name (fun cdv A outer s H E hr => ?_)
  have hr65 := units65 hr
  exact (yone (yret (xcall G_is_text_of hr (by rfl) T.m_is_text_of T.F_is_text_of.kp T.b_is_text_of (xcons (xn (pv 0)) (xcons (xc (C8.pe_gc (by rfl) T.g_LETTERS) (rep_LETTERS T)) (xcons xint (xcons (xc (C8.pe_gc (by rfl) T.g_LONGEST_NAME) (rep_LONGEST_NAME T)) xnil)))))))

abbrev s_are_rising : Stmt := topS 19
abbrev N_are_rising : List Str := ["thing", "least", "one", "other"]
theorem sc_are_rising : FnScope N_are_rising ["thing", "least"] (defScope s_are_rising) :=
  ⟨rfl, rfl, rfl, by decide +kernel, rfl, by decide +kernel, by decide +kernel⟩
theorem ok_are_rising (T : Txt K mg B) : FnOk P w K mg base CX0 (k + 2) B.f_are_rising B.d_are_rising ["thing", "least"] (spF (Sx K B) 2 F_are_rising) := by
  have nd := sc_are_rising.nd
  have G_is_text_of : FnOk P w K mg base CX0 (k + 1) B.f_is_text_of B.d_is_text_of ["thing", "letters", "least", "most"] (spF (Sx K B) 4 F_is_text_of) := ok_is_text_of (k := k + 0) T
  refine Fun.pu T.F_are_rising sc_are_rising (fun cdv A outer s H E hr => ?_)
  have hr65 := units65 hr
  exact (ycons (yif (xnot (xttr rfl (sw (xcall G_is_text_of hr (by rfl) T.m_is_text_of T.F_is_text_of.kp T.b_is_text_of (xcons (xn (pv 0)) (xcons (xc (C8.pe_gc (by rfl) T.g_LETTERS) (rep_LETTERS T)) (xcons (xn (pv 1)) (xcons (xc (C8.pe_gc (by rfl) T.g_MOST_SIGNS) (rep_MOST_SIGNS T)) xnil))))))))
      (yone (yret xbl))
      ynil)
    (yone (yret (xcallB1 (cr_allD rfl rfl) (by rfl) T.z_all (by decide +kernel) (sw (fs (xlc (own := [("one", 2), ("other", 3)]) rfl nd (isw (xzip rfl (by rfl) T.z_zip (xn (pv 0)) (xsl rfl (sw (xn (pv 0))) (xo1 (sw xint)) xo0))) (blkOk_by (own := [("one", 2), ("other", 3)]) (N := N_are_rising) (sc := defScope s_are_rising) (by decide +kernel)) (fun _ _ _ _ _ => (xgtup (k := 2) rfl rfl (xgcons (xgn (pg_name (i := 2) nd rfl (.inl rfl) (.inr rfl))) (xgcons (xgn (pg_name (i := 3) nd rfl (.inl rfl) (.inr rfl))) xgnil)))) (fun _ _ _ _ _ => xts0) (fun _ _ _ _ _ => (xcmp op_ltDo (sw (xn (pv 2))) (sw (xn (pv 3))) (nomark _))))))))))

abbrev s_are_signs : Stmt := topS 20
abbrev N_are_signs : List Str := ["thing"]
theorem sc_are_signs : FnScope N_are_signs ["thing"] (defScope s_are_signs) :=
  ⟨rfl, rfl, rfl, by decide +kernel, rfl, by decide +kernel, by decide +kernel⟩
theorem ok_are_signs (T : Txt K mg B) : FnOk P w K mg base CX0 (k + 3) B.f_are_signs B.d_are_signs ["thing"] (spF (Sx K B) 1 F_are_signs) := by
  have nd := sc_are_signs.nd
  have G_are_rising : FnOk P w K mg base CX0 (k + 2) B.f_are_rising B.d_are_rising ["thing", "least"] (spF (Sx K B) 2 F_are_rising) := ok_are_rising (k := k + 0) T
  refine Fun.pu T.F_are_signs sc_are_signs (fun cdv A outer s H E hr => ?_)
  have hr65 := units65 hr
  exact (yone (yret (xcall G_are_rising hr (by rfl) T.m_are_rising T.F_are_rising.kp T.b_are_rising (xcons (xn (pv 0)) (xcons (xc (C8.pe_gc (by rfl) T.g_LEAST_SIGNS) (rep_LEAST_SIGNS T)) xnil)))))

abbrev s_is_place : Stmt := topS 21
abbrev N_is_place : List Str := ["thing"]
theorem sc_is_place : FnScope N_is_place ["thing"] (defScope s_is_place) :=
  ⟨rfl, rfl, rfl, by decide +kernel, rfl, by decide +kernel, by decide +kernel⟩
theorem ok_is_place (T : Txt K mg B) : FnOk P w K mg base CX0 (k + 3) B.f_is_place B.d_is_place ["thing"] (spF (Sx K B) 1 F_is_place) := by
  have nd := sc_is_place.nd
  have G_is_name : FnOk P w K mg base CX0 (k + 2) B.f_is_name B.d_is_name ["thing"] (spF (Sx K B) 1 F_is_name) := ok_is_name (k := k + 0) T
  refine Fun.pu T.F_is_place sc_is_place (fun cdv A outer s H E hr => ?_)
  have hr65 := units65 hr
  exact (ycons (yif (PW.pt (xor (xnot (xttr rfl (sw (xisi (t := .tuple) rfl (by rfl) T.z_isinstance (sw (xn (pv 0))) (pe_bltn (by rfl) T.z_tuple (by decide +kernel) (v := .ty "tuple") rfl))))) (xor (xtcmp (op_neDo rfl hr.units) (sw (xcallB1 (cr_lenD rfl) (by rfl) T.z_len (by decide +kernel) (sw (xn (pv 0))))) (sw xint) (nomark _)) (xor1 (xnot (xttr rfl (sw (xcall G_is_name hr (by rfl) T.m_is_name T.F_is_name.kp T.b_is_name (xcons (xidx rfl (hu_of hr) (sw (xn (pv 0))) (sw xint) (fun _ _ => rfl)) xnil)))))))))
      (yone (yret xbl))
      ynil)
    (yone (yret (xandv (xisi (t := .int) rfl (by rfl) T.z_isinstance (sw (xidx rfl (hu_of hr) (sw (xn (pv 0))) (sw xint) (fun _ _ => rfl))) (pe_bltn (by rfl) T.z_int (by decide +kernel) (v := .ty "int") rfl)) (xandv (xnotv (xisi (t := .bool) rfl (by rfl) T.z_isinstance (sw (xidx rfl (hu_of hr) (sw (xn (pv 0))) (sw xint) (fun _ _ => rfl))) (pe_bltn (by rfl) T.z_bool (by decide +kernel) (v := .ty "bool") rfl))) (xone (xcmp op_geDo (sw (xidx rfl (hu_of hr) (sw (xn (pv 0))) (sw xint) (fun _ _ => rfl))) (sw xint) (nomark _))))))))

abbrev s_is_rhythm : Stmt := topS 22
abbrev N_is_rhythm : List Str := ["thing"]
theorem sc_is_rhythm : FnScope N_is_rhythm ["thing"] (defScope s_is_rhythm) :=
  ⟨rfl, rfl, rfl, by decide +kernel, rfl, by decide +kernel, by decide +kernel⟩
theorem ok_is_rhythm (T : Txt K mg B) : FnOk P w K mg base CX0 (k + 2) B.f_is_rhythm B.d_is_rhythm ["thing"] (spF (Sx K B) 1 F_is_rhythm) := by
  have nd := sc_is_rhythm.nd
  have G_is_text_of : FnOk P w K mg base CX0 (k + 1) B.f_is_text_of B.d_is_text_of ["thing", "letters", "least", "most"] (spF (Sx K B) 4 F_is_text_of) := ok_is_text_of (k := k + 0) T
  refine Fun.pu T.F_is_rhythm sc_is_rhythm (fun cdv A outer s H E hr => ?_)
  have hr65 := units65 hr
  exact (yone (yret (xcall G_is_text_of hr (by rfl) T.m_is_text_of T.F_is_text_of.kp T.b_is_text_of (xcons (xn (pv 0)) (xcons (xc (C8.pe_gc (by rfl) T.g_MARKS) (rep_MARKS T)) (xcons xint (xcons (xc (C8.pe_gc (by rfl) T.g_LONGEST_RHYTHM) (rep_LONGEST_RHYTHM T)) xnil)))))))

abbrev s_common_divisor : Stmt := topS 23
abbrev N_common_divisor : List Str := ["one", "other"]
theorem sc_common_divisor : FnScope N_common_divisor ["one", "other"] (defScope s_common_divisor) :=
  ⟨rfl, rfl, rfl, by decide +kernel, rfl, by decide +kernel, by decide +kernel⟩
theorem ok_common_divisor (T : Txt K mg B) : FnOk P w K mg base CX0 (k + 1) B.f_common_divisor B.d_common_divisor ["one", "other"] (spF (Sx K B) 2 F_common_divisor) := by
  have nd := sc_common_divisor.nd
  refine Fun.pu T.F_common_divisor sc_common_divisor (fun cdv A outer s H E hr => ?_)
  have hr65 := units65 hr
  exact (ycons (ywhile PassesOwn.never (xtcmp op_gtDo (sw (xn (pv 1))) (sw xint) (nomark _))
      (yone (ypar (i := 0) (j := 1) (by rfl) nd rfl rfl (by decide) rfl rfl (ymfz (xn (pv 1)) (ymfz (xbin op_modD (sw (xn (pv 0))) (sw (xn (pv 1)))) ymnil)) (by rfl))))
    (yone (yret (xn (pv 0)))))

abbrev s_common_multiple : Stmt := topS 24
abbrev N_common_multiple : List Str := ["one", "other"]
theorem sc_common_multiple : FnScope N_common_multiple ["one", "other"] (defScope s_common_multiple) :=
  ⟨rfl, rfl, rfl, by decide +kernel, rfl, by decide +kernel, by decide +kernel⟩
theorem ok_common_multiple (T : Txt K mg B) : FnOk P w K mg base CX0 (k + 2) B.f_common_multiple B.d_common_multiple ["one", "other"] (spF (Sx K B) 2 F_common_multiple) := by
  have nd := sc_common_multiple.nd
  have G_common_divisor : FnOk P w K mg base CX0 (k + 1) B.f_common_divisor B.d_common_divisor ["one", "other"] (spF (Sx K B) 2 F_common_divisor) := ok_common_divisor (k := k + 0) T
  refine Fun.pu T.F_common_multiple sc_common_multiple (fun cdv A outer s H E hr => ?_)
  have hr65 := units65 hr
  exact (yone (yret (xbin op_mulD (sw (xbin op_fdivD (sw (xn (pv 0))) (sw (xcall G_common_divisor hr (by rfl) T.m_common_divisor T.F_common_divisor.kp T.b_common_divisor (xcons (xn (pv 0)) (xcons (xn (pv 1)) xnil)))))) (sw (xn (pv 1))))))

end
end K05
set_option Elab.async false
set_option linter.all false
set_option maxRecDepth 100000
set_option maxHeartbeats 4000000
namespace K05
open PySem PySem.Spec PyProof.Rows L2 Fd Tx Pu Pg
section
variable {P : Program} {w : World} {K : PySem.W.Frag} {mg : Str → Option Value} {base : Heap} {B : Fs} {k : Nat}
abbrev s_Band___init__ : Stmt := inClass (topS 31) 0
abbrev N_Band___init__ : List Str := ["self", "name", "long", "pace"]
theorem sc_Band___init__ : FnScope N_Band___init__ ["self", "name", "long", "pace"] (defScope s_Band___init__) :=
  ⟨rfl, rfl, rfl, by decide +kernel, rfl, by decide +kernel, by decide +kernel⟩
theorem ok_Band___init__ (T : Txt K mg B) : FnOk P w K mg base CX0 (k + 3) B.f_Band___init__ B.d_Band___init__ ["self", "name", "long", "pace"] (spI (Sx K B) 0 3 F_Band___init__) := by
  have nd := sc_Band___init__.nd
  have G_is_name : FnOk P w K mg base CX0 (k + 2) B.f_is_name B.d_is_name ["thing"] (spF (Sx K B) 1 F_is_name) := ok_is_name (k := k + 0) T
  have G_is_whole : FnOk P w K mg base CX0 (k + 2) B.f_is_whole B.d_is_whole ["thing", "least", "most"] (spF (Sx K B) 3 F_is_whole) := ok_is_whole (k := k + 1) T
  refine Fun.pui (c := 0) (m := 3) T.F_Band___init__ sc_Band___init__ rfl (fun cdv A outer s H E hr => ?_)
  have hr65 := units65 hr
  exact (ycons (yif (xnot (xttr rfl (sw (xcall G_is_name hr (by rfl) T.m_is_name T.F_is_name.kp T.b_is_name (xcons (xn (pv 1)) xnil)))))
      (yone ynever)
      ynil)
    (ycons (yif (xnot (xttr rfl (sw (xcall G_is_whole hr (by rfl) T.m_is_whole T.F_is_whole.kp T.b_is_whole (xcons (xn (pv 2)) (xcons xint (xcons (xc (C8.pe_gc (by rfl) T.g_LONG) (rep_LONG T)) xnil)))))))
      (yone ynever)
      ynil)
    (ycons (yif (xnot (xttr rfl (sw (xcall G_is_whole hr (by rfl) T.m_is_whole T.F_is_whole.kp T.b_is_whole (xcons (xn (pv 3)) (xcons (xun un_negD (sw (xc (C8.pe_gc (by rfl) T.g_FAR) (rep_FAR T)))) (xcons (xc (C8.pe_gc (by rfl) T.g_FAR) (rep_FAR T)) xnil)))))))
      (yone ynever)
      ynil)
    (ycons (yfldn (c := 0) (k := 0) rfl (cl_Band T) rfl (pv 0) (xn (pv 1)))
    (ycons (yfldn (c := 0) (k := 1) rfl (cl_Band T) rfl (pv 0) (xn (pv 2)))
    (yone (yfldn (c := 0) (k := 2) rfl (cl_Band T) rfl (pv 0) (xn (pv 3)))))))))

abbrev s_Band_called : Stmt := inClass (topS 31) 2
abbrev N_Band_called : List Str := ["self"]
theorem sc_Band_called : FnScope N_Band_called ["self"] (defScope s_Band_called) :=
  ⟨rfl, rfl, rfl, by decide +kernel, rfl, by decide +kernel, by decide +kernel⟩
theorem ok_Band_called (T : Txt K mg B) : FnOk P w K mg base CX0 (k + 1) B.f_Band_called B.d_Band_called ["self"] (spF (Sx K B) 1 F_Band_called) := by
  have nd := sc_Band_called.nd
  refine Fun.pu T.F_Band_called sc_Band_called (fun cdv A outer s H E hr => ?_)
  have hr65 := units65 hr
  exact (yone (yret (xfld (c := 0) (i := 0) rfl (cl_Band T) rfl (sw (xn (pv 0))))))

abbrev s_Band_long : Stmt := inClass (topS 31) 3
abbrev N_Band_long : List Str := ["self"]
theorem sc_Band_long : FnScope N_Band_long ["self"] (defScope s_Band_long) :=
  ⟨rfl, rfl, rfl, by decide +kernel, rfl, by decide +kernel, by decide +kernel⟩
theorem ok_Band_long (T : Txt K mg B) : FnOk P w K mg base CX0 (k + 1) B.f_Band_long B.d_Band_long ["self"] (spF (Sx K B) 1 F_Band_long) := by
  have nd := sc_Band_long.nd
  refine Fun.pu T.F_Band_long sc_Band_long (fun cdv A outer s H E hr => ?_)
  have hr65 := units65 hr
  exact (yone (yret (xfld (c := 0) (i := 1) rfl (cl_Band T) rfl (sw (xn (pv 0))))))

abbrev s_Band_pace : Stmt := inClass (topS 31) 4
abbrev N_Band_pace : List Str := ["self"]
theorem sc_Band_pace : FnScope N_Band_pace ["self"] (defScope s_Band_pace) :=
  ⟨rfl, rfl, rfl, by decide +kernel, rfl, by decide +kernel, by decide +kernel⟩
theorem ok_Band_pace (T : Txt K mg B) : FnOk P w K mg base CX0 (k + 1) B.f_Band_pace B.d_Band_pace ["self"] (spF (Sx K B) 1 F_Band_pace) := by
  have nd := sc_Band_pace.nd
  refine Fun.pu T.F_Band_pace sc_Band_pace (fun cdv A outer s H E hr => ?_)
  have hr65 := units65 hr
  exact (yone (yret (xfld (c := 0) (i := 2) rfl (cl_Band T) rfl (sw (xn (pv 0))))))

abbrev s_is_table : Stmt := topS 32
abbrev N_is_table : List Str := ["thing", "text"]
theorem sc_is_table : FnScope N_is_table ["thing"] (defScope s_is_table) :=
  ⟨rfl, rfl, rfl, by decide +kernel, rfl, by decide +kernel, by decide +kernel⟩
theorem ok_is_table (T : Txt K mg B) : FnOk P w K mg base CX0 (k + 2) B.f_is_table B.d_is_table ["thing"] (spF (Sx K B) 1 F_is_table) := by
  have nd := sc_is_table.nd
  have G_is_text_of : FnOk P w K mg base CX0 (k + 1) B.f_is_text_of B.d_is_text_of ["thing", "letters", "least", "most"] (spF (Sx K B) 4 F_is_text_of) := ok_is_text_of (k := k + 0) T
  refine Fun.pu T.F_is_table sc_is_table (fun cdv A outer s H E hr => ?_)
  have hr65 := units65 hr
  exact (ycons (yif (PW.pt (xor (xnot (xttr rfl (sw (xisi (t := .tuple) rfl (by rfl) T.z_isinstance (sw (xn (pv 0))) (pe_bltn (by rfl) T.z_tuple (by decide +kernel) (v := .ty "tuple") rfl))))) (xor1 (xnot (xtchain op_leDo op_leDo (sw (xc (C8.pe_gc (by rfl) T.g_LEAST_SIGNS) (rep_LEAST_SIGNS T))) (sw (xcallB1 (cr_lenD rfl) (by rfl) T.z_len (by decide +kernel) (sw (xn (pv 0))))) (sw (xc (C8.pe_gc (by rfl) T.g_MOST_SIGNS) (rep_MOST_SIGNS T))))))))
      (yone (yret xbl))
      ynil)
    (yone (yret (xcallB1 (cr_allD rfl rfl) (by rfl) T.z_all (by decide +kernel) (sw (fs (xlc (own := [("text", 1)]) rfl nd (isw (xit rfl (xn (pv 0)))) (blkOk_by (own := [("text", 1)]) (N := N_is_table) (sc := defScope s_is_table) (by decide +kernel)) (fun _ _ _ _ _ => (xgn (pg_name (i := 1) nd rfl (.inl rfl) (.inr rfl)))) (fun _ _ _ _ _ => xts0) (fun _ _ _ _ _ => (xcall G_is_text_of hr (by rfl) T.m_is_text_of T.F_is_text_of.kp T.b_is_text_of (xcons (xn (pv 1)) (xcons (xc (C8.pe_gc (by rfl) T.g_LETTERS) (rep_LETTERS T)) (xcons (xcallB1 (cr_lenD rfl) (by rfl) T.z_len (by decide +kernel) (sw (xn (pv 0)))) (xcons (xcallB1 (cr_lenD rfl) (by rfl) T.z_len (by decide +kernel) (sw (xn (pv 0)))) xnil)))))))))))))

abbrev s_is_press_place : Stmt := topS 33
abbrev N_is_press_place : List Str := ["thing"]
theorem sc_is_press_place : FnScope N_is_press_place ["thing"] (defScope s_is_press_place) :=
  ⟨rfl, rfl, rfl, by decide +kernel, rfl, by decide +kernel, by decide +kernel⟩
theorem ok_is_press_place (T : Txt K mg B) : FnOk P w K mg base CX0 (k + 4) B.f_is_press_place B.d_is_press_place ["thing"] (spF (Sx K B) 1 F_is_press_place) := by
  have nd := sc_is_press_place.nd
  have G_is_place : FnOk P w K mg base CX0 (k + 3) B.f_is_place B.d_is_place ["thing"] (spF (Sx K B) 1 F_is_place) := ok_is_place (k := k + 0) T
  refine Fun.pu T.F_is_press_place sc_is_press_place (fun cdv A outer s H E hr => ?_)
  have hr65 := units65 hr
  exact (yone (yret (xandv (xcall G_is_place hr (by rfl) T.m_is_place T.F_is_place.kp T.b_is_place (xcons (xn (pv 0)) xnil)) (xone (xcmp op_ltDo (sw (xidx rfl (hu_of hr) (sw (xn (pv 0))) (sw xint) (fun _ _ => rfl))) (sw (xc (C8.pe_gc (by rfl) T.g_LONG) (rep_LONG T))) (nomark _))))))

abbrev s_Press___init__ : Stmt := inClass (topS 34) 0
abbrev N_Press___init__ : List Str := ["self", "above", "below", "table", "rhythm"]
theorem sc_Press___init__ : FnScope N_Press___init__ ["self", "above", "below", "table", "rhythm"] (defScope s_Press___init__) :=
  ⟨rfl, rfl, rfl, by decide +kernel, rfl, by decide +kernel, by decide +kernel⟩
theorem ok_Press___init__ (T : Txt K mg B) : FnOk P w K mg base CX0 (k + 5) B.f_Press___init__ B.d_Press___init__ ["self", "above", "below", "table", "rhythm"] (spI (Sx K B) 1 4 F_Press___init__) := by
  have nd := sc_Press___init__.nd
  have G_is_press_place : FnOk P w K mg base CX0 (k + 4) B.f_is_press_place B.d_is_press_place ["thing"] (spF (Sx K B) 1 F_is_press_place) := ok_is_press_place (k := k + 0) T
  have G_is_rhythm : FnOk P w K mg base CX0 (k + 4) B.f_is_rhythm B.d_is_rhythm ["thing"] (spF (Sx K B) 1 F_is_rhythm) := ok_is_rhythm (k := k + 2) T
  have G_is_table : FnOk P w K mg base CX0 (k + 4) B.f_is_table B.d_is_table ["thing"] (spF (Sx K B) 1 F_is_table) := ok_is_table (k := k + 2) T
  refine Fun.pui (c := 1) (m := 4) T.F_Press___init__ sc_Press___init__ rfl (fun cdv A outer s H E hr => ?_)
  have hr65 := units65 hr
  exact (ycons (yif (xnot (xttr rfl (sw (xcall G_is_press_place hr (by rfl) T.m_is_press_place T.F_is_press_place.kp T.b_is_press_place (xcons (xn (pv 1)) xnil)))))
      (yone ynever)
      ynil)
    (ycons (yif (xnot (xttr rfl (sw (xcall G_is_press_place hr (by rfl) T.m_is_press_place T.F_is_press_place.kp T.b_is_press_place (xcons (xn (pv 2)) xnil)))))
      (yone ynever)
      ynil)
    (ycons (yif (xnot (xttr rfl (sw (xcall G_is_table hr (by rfl) T.m_is_table T.F_is_table.kp T.b_is_table (xcons (xn (pv 3)) xnil)))))
      (yone ynever)
      ynil)
    (ycons (yif (xnot (xttr rfl (sw (xcall G_is_rhythm hr (by rfl) T.m_is_rhythm T.F_is_rhythm.kp T.b_is_rhythm (xcons (xn (pv 4)) xnil)))))
      (yone ynever)
      ynil)
    (ycons (yfldn (c := 1) (k := 0) rfl (cl_Press T) rfl (pv 0) (xn (pv 1)))
    (ycons (yfldn (c := 1) (k := 1) rfl (cl_Press T) rfl (pv 0) (xn (pv 2)))
    (ycons (yfldn (c := 1) (k := 2) rfl (cl_Press T) rfl (pv 0) (xn (pv 3)))
    (yone (yfldn (c := 1) (k := 3) rfl (cl_Press T) rfl (pv 0) (xn (pv 4)))))))))))

abbrev s_Press_above : Stmt := inClass (topS 34) 2
abbrev N_Press_above : List Str := ["self"]
theorem sc_Press_above : FnScope N_Press_above ["self"] (defScope s_Press_above) :=
  ⟨rfl, rfl, rfl, by decide +kernel, rfl, by decide +kernel, by decide +kernel⟩
theorem ok_Press_above (T : Txt K mg B) : FnOk P w K mg base CX0 (k + 1) B.f_Press_above B.d_Press_above ["self"] (spF (Sx K B) 1 F_Press_above) := by
  have nd := sc_Press_above.nd
  refine Fun.pu T.F_Press_above sc_Press_above (fun cdv A outer s H E hr => ?_)
  have hr65 := units65 hr
  exact (yone (yret (xfld (c := 1) (i := 0) rfl (cl_Press T) rfl (sw (xn (pv 0))))))

abbrev s_Press_below : Stmt := inClass (topS 34) 3
abbrev N_Press_below : List Str := ["self"]
theorem sc_Press_below : FnScope N_Press_below ["self"] (defScope s_Press_below) :=
  ⟨rfl, rfl, rfl, by decide +kernel, rfl, by decide +kernel, by decide +kernel⟩
theorem ok_Press_below (T : Txt K mg B) : FnOk P w K mg base CX0 (k + 1) B.f_Press_below B.d_Press_below ["self"] (spF (Sx K B) 1 F_Press_below) := by
  have nd := sc_Press_below.nd
  refine Fun.pu T.F_Press_below sc_Press_below (fun cdv A outer s H E hr => ?_)
  have hr65 := units65 hr
  exact (yone (yret (xfld (c := 1) (i := 1) rfl (cl_Press T) rfl (sw (xn (pv 0))))))

abbrev s_Press_table : Stmt := inClass (topS 34) 4
abbrev N_Press_table : List Str := ["self"]
theorem sc_Press_table : FnScope N_Press_table ["self"] (defScope s_Press_table) :=
  ⟨rfl, rfl, rfl, by decide +kernel, rfl, by decide +kernel, by decide +kernel⟩
theorem ok_Press_table (T : Txt K mg B) : FnOk P w K mg base CX0 (k + 1) B.f_Press_table B.d_Press_table ["self"] (spF (Sx K B) 1 F_Press_table) := by
  have nd := sc_Press_table.nd
  refine Fun.pu T.F_Press_table sc_Press_table (fun cdv A outer s H E hr => ?_)
  have hr65 := units65 hr
  exact (yone (yret (xfld (c := 1) (i := 2) rfl (cl_Press T) rfl (sw (xn (pv 0))))))

abbrev s_Press_rhythm : Stmt := inClass (topS 34) 5
abbrev N_Press_rhythm : List Str := ["self"]
theorem sc_Press_rhythm : FnScope N_Press_rhythm ["self"] (defScope s_Press_rhythm) :=
  ⟨rfl, rfl, rfl, by decide +kernel, rfl, by decide +kernel, by decide +kernel⟩
theorem ok_Press_rhythm (T : Txt K mg B) : FnOk P w K mg base CX0 (k + 1) B.f_Press_rhythm B.d_Press_rhythm ["self"] (spF (Sx K B) 1 F_Press_rhythm) := by
  have nd := sc_Press_rhythm.nd
  refine Fun.pu T.F_Press_rhythm sc_Press_rhythm (fun cdv A outer s H E hr => ?_)
  have hr65 := units65 hr
  exact (yone (yret (xfld (c := 1) (i := 3) rfl (cl_Press T) rfl (sw (xn (pv 0))))))

abbrev s_Press_has_beat : Stmt := inClass (topS 34) 6
abbrev N_Press_has_beat : List Str := ["self", "beat"]
theorem sc_Press_has_beat : FnScope N_Press_has_beat ["self", "beat"] (defScope s_Press_has_beat) :=
  ⟨rfl, rfl, rfl, by decide +kernel, rfl, by decide +kernel, by decide +kernel⟩
theorem ok_Press_has_beat (T : Txt K mg B) : FnOk P w K mg base CX0 (k + 1) B.f_Press_has_beat B.d_Press_has_beat ["self", "beat"] (spF (Sx K B) 2 F_Press_has_beat) := by
  have nd := sc_Press_has_beat.nd
  refine Fun.pu T.F_Press_has_beat sc_Press_has_beat (fun cdv A outer s H E hr => ?_)
  have hr65 := units65 hr
  exact (yone (yret (xcmp (op_eqDo rfl hr.units) (sw (xidx rfl (hu_of hr) (sw (xfld (c := 1) (i := 3) rfl (cl_Press T) rfl (sw (xn (pv 0))))) (sw (xbin op_modD (sw (xbin op_subD (sw (xn (pv 1))) (sw xint))) (sw (xcallB1 (cr_lenD rfl) (by rfl) T.z_len (by decide +kernel) (sw (xfld (c := 1) (i := 3) rfl (cl_Press T) rfl (sw (xn (pv 0))))))))) (fun _ _ => rfl))) (sw (xc (C8.pe_gc (by rfl) T.g_WORKS) (rep_WORKS T))) (nomark _))))

end
end K05
set_option Elab.async false
set_option linter.all false
set_option maxRecDepth 100000
set_option maxHeartbeats 4000000
namespace K05
open PySem PySem.Spec PyProof.Rows L2 Fd Tx Pu Pg
section
variable {P : Program} {w : World} {K : PySem.W.Frag} {mg : Str → Option Value} {base : Heap} {B : Fs} {k : Nat}
abbrev s_are_bands : Stmt := topS 35
abbrev N_are_bands : List Str := ["thing", "one"]
theorem sc_are_bands : FnScope N_are_bands ["thing"] (defScope s_are_bands) :=
  ⟨rfl, rfl, rfl, by decide +kernel, rfl, by decide +kernel, by decide +kernel⟩
theorem ok_are_bands (T : Txt K mg B) : FnOk P w K mg base CX0 (k + 2) B.f_are_bands B.d_are_bands ["thing"] (spF (Sx K B) 1 F_are_bands) := by
  have nd := sc_are_bands.nd
  have G_Band_called : FnOk P w K mg base CX0 (k + 1) B.f_Band_called B.d_Band_called ["self"] (spF (Sx K B) 1 F_Band_called) := ok_Band_called (k := k + 0) T
  have G_Band_long : FnOk P w K mg base CX0 (k + 1) B.f_Band_long B.d_Band_long ["self"] (spF (Sx K B) 1 F_Band_long) := ok_Band_long (k := k + 0) T
  refine Fun.pu T.F_are_bands sc_are_bands (fun cdv A outer s H E hr => ?_)
  have hr65 := units65 hr
  exact (ycons (yif (PW.pt (xor (xnot (xttr rfl (sw (xisi2 (t := .list) (u := .tuple) rfl (by rfl) T.z_isinstance (sw (xn (pv 0))) (pe_bltn (by rfl) T.z_list (by decide +kernel) (v := .ty "list") rfl) (pe_bltn (by rfl) T.z_tuple (by decide +kernel) (v := .ty "tuple") rfl))))) (xor1 (xnot (xtchain op_leDo op_leDo (sw xint) (sw (xcallB1 (cr_lenD rfl) (by rfl) T.z_len (by decide +kernel) (sw (xn (pv 0))))) (sw (xc (C8.pe_gc (by rfl) T.g_MOST_BANDS) (rep_MOST_BANDS T))))))))
      (yone (yret xbl))
      ynil)
    (ycons (yif (xnot (xttr rfl (sw (xcallB1 (cr_allD rfl rfl) (by rfl) T.z_all (by decide +kernel) (sw (fs (xlc (own := [("one", 1)]) rfl nd (isw (xit rfl (xn (pv 0)))) (blkOk_by (own := [("one", 1)]) (N := N_are_bands) (sc := defScope s_are_bands) (by decide +kernel)) (fun _ _ _ _ _ => (xgn (pg_name (i := 1) nd rfl (.inl rfl) (.inr rfl)))) (fun _ _ _ _ _ => xts0) (fun _ _ _ _ _ => (xisc (c := 0) rfl T.i_Band (by rfl) T.z_isinstance (sw (xn (pv 1))) (pe_glob (by rfl) T.m_Band (v := .ref B.C_Band) rfl))))))))))
      (yone (yret xbl))
      ynil)
    (ycons (yif (xtcmp op_ltDo (sw (xlenset (own := [("one", 1)]) rfl nd (by rfl) T.z_len (isw (xit rfl (xn (pv 0)))) (blkOk_by (own := [("one", 1)]) (N := N_are_bands) (sc := defScope s_are_bands) (by decide +kernel)) (fun _ _ _ _ _ => (xgn (pg_name (i := 1) nd rfl (.inl rfl) (.inr rfl)))) (fun _ _ _ _ _ => xts0) (fun _ _ _ _ _ => (xmeth0 (c := 0) rfl (xn (pv 1)) (cl_Band T) (show ("called" : Str) ∉ nmsF 0 by decide +kernel) T.M_Band_called G_Band_called hr T.b_Band_called)))) (sw (xcallB1 (cr_lenD rfl) (by rfl) T.z_len (by decide +kernel) (sw (xn (pv 0))))) (nomark _))
      (yone (yret xbl))
      ynil)
    (yone (yret (xcmp op_leDo (sw (xcallB1 (cr_sumD rfl rfl) (by rfl) T.z_sum (by decide +kernel) (sw (fs (xlc (own := [("one", 1)]) rfl nd (isw (xit rfl (xn (pv 0)))) (blkOk_by (own := [("one", 1)]) (N := N_are_bands) (sc := defScope s_are_bands) (by decide +kernel)) (fun _ _ _ _ _ => (xgn (pg_name (i := 1) nd rfl (.inl rfl) (.inr rfl)))) (fun _ _ _ _ _ => xts0) (fun _ _ _ _ _ => (xmeth0 (c := 0) rfl (xn (pv 1)) (cl_Band T) (show ("long" : Str) ∉ nmsF 0 by decide +kernel) T.M_Band_long G_Band_long hr T.b_Band_long))))))) (sw (xc (C8.pe_gc (by rfl) T.g_MOST_PLACES) (rep_MOST_PLACES T))) (nomark _)))))))

abbrev s_fits : Stmt := topS 36
abbrev N_fits : List Str := ["press", "signs", "longs", "name", "number", "text"]
theorem sc_fits : FnScope N_fits ["press", "signs", "longs"] (defScope s_fits) :=
  ⟨rfl, rfl, rfl, by decide +kernel, rfl, by decide +kernel, by decide +kernel⟩
theorem ok_fits (T : Txt K mg B) : FnOk P w K mg base CX0 (k + 2) B.f_fits B.d_fits ["press", "signs", "longs"] (spF (Sx K B) 3 F_fits) := by
  have nd := sc_fits.nd
  have G_Press_above : FnOk P w K mg base CX0 (k + 1) B.f_Press_above B.d_Press_above ["self"] (spF (Sx K B) 1 F_Press_above) := ok_Press_above (k := k + 0) T
  have G_Press_below : FnOk P w K mg base CX0 (k + 1) B.f_Press_below B.d_Press_below ["self"] (spF (Sx K B) 1 F_Press_below) := ok_Press_below (k := k + 0) T
  have G_Press_table : FnOk P w K mg base CX0 (k + 1) B.f_Press_table B.d_Press_table ["self"] (spF (Sx K B) 1 F_Press_table) := ok_Press_table (k := k + 0) T
  have G_is_text_of : FnOk P w K mg base CX0 (k + 1) B.f_is_text_of B.d_is_text_of ["thing", "letters", "least", "most"] (spF (Sx K B) 4 F_is_text_of) := ok_is_text_of (k := k + 0) T
  refine Fun.pu T.F_fits sc_fits (fun cdv A outer s H E hr => ?_)
  have hr65 := units65 hr
  exact (ycons (yif (PW.pt (xor (xnot (xttr rfl (sw (xisc (c := 1) rfl T.i_Press (by rfl) T.z_isinstance (sw (xn (pv 0))) (pe_glob (by rfl) T.m_Press (v := .ref B.C_Press) rfl))))) (xor1 (xtcmp (op_neDo rfl hr.units) (sw (xcallB1 (cr_lenD rfl) (by rfl) T.z_len (by decide +kernel) (sw (xmeth0 (c := 1) rfl (xn (pv 0)) (cl_Press T) (show ("table" : Str) ∉ nmsF 1 by decide +kernel) T.M_Press_table G_Press_table hr T.b_Press_table)))) (sw (xcallB1 (cr_lenD rfl) (by rfl) T.z_len (by decide +kernel) (sw (xn (pv 1))))) (nomark _)))))
      (yone (yret xbl))
      ynil)
    (ycons (yfor PassesOwn.never rfl (xit rfl (xtup (xcons (xmeth0 (c := 1) rfl (xn (pv 0)) (cl_Press T) (show ("above" : Str) ∉ nmsF 1 by decide +kernel) T.M_Press_above G_Press_above hr T.b_Press_above) (xcons (xmeth0 (c := 1) rfl (xn (pv 0)) (cl_Press T) (show ("below" : Str) ∉ nmsF 1 by decide +kernel) T.M_Press_below G_Press_below hr T.b_Press_below) xnil)))) (xgtup (k := 2) rfl rfl (xgcons (xgn (pg_name (i := 3) nd rfl (.inl rfl))) (xgcons (xgn (pg_name (i := 4) nd rfl (.inl rfl))) xgnil)))
      (yone (yif (xtcmp op_geDo (sw (xn (pv 4))) (sw (xget2 (hu_of hr) (xn (pv 2)) (sw (xn (pv 3))) xint ⟨by rfl, by rfl, by rfl, by rfl⟩)) (nomark _))
      (yone (yret xbl))
      ynil)))
    (yone (yret (xcallB1 (cr_allD rfl rfl) (by rfl) T.z_all (by decide +kernel) (sw (fs (xlc (own := [("text", 5)]) rfl nd (isw (xit rfl (xmeth0 (c := 1) rfl (xn (pv 0)) (cl_Press T) (show ("table" : Str) ∉ nmsF 1 by decide +kernel) T.M_Press_table G_Press_table hr T.b_Press_table))) (blkOk_by (own := [("text", 5)]) (N := N_fits) (sc := defScope s_fits) (by decide +kernel)) (fun _ _ _ _ _ => (xgn (pg_name (i := 5) nd rfl (.inl rfl) (.inr rfl)))) (fun _ _ _ _ _ => xts0) (fun _ _ _ _ _ => (xcall G_is_text_of hr (by rfl) T.m_is_text_of T.F_is_text_of.kp T.b_is_text_of (xcons (xn (pv 5)) (xcons (xn (pv 1)) (xcons (xcallB1 (cr_lenD rfl) (by rfl) T.z_len (by decide +kernel) (sw (xn (pv 1)))) (xcons (xcallB1 (cr_lenD rfl) (by rfl) T.z_len (by decide +kernel) (sw (xn (pv 1)))) xnil))))))))))))))

abbrev s_Work___init__ : Stmt := inClass (topS 37) 0
abbrev N_Work___init__ : List Str := ["self", "signs", "bands", "presses", "longs", "one", "number", "place"]
theorem sc_Work___init__ : FnScope N_Work___init__ ["self", "signs", "bands", "presses"] (defScope s_Work___init__) :=
  ⟨rfl, rfl, rfl, by decide +kernel, rfl, by decide +kernel, by decide +kernel⟩
theorem ok_Work___init__ (T : Txt K mg B) : FnOk P w K mg base CX0 (k + 4) B.f_Work___init__ B.d_Work___init__ ["self", "signs", "bands", "presses"] (spI (Sx K B) 2 3 F_Work___init__) := by
  have nd := sc_Work___init__.nd
  have G_Band_called : FnOk P w K mg base CX0 (k + 3) B.f_Band_called B.d_Band_called ["self"] (spF (Sx K B) 1 F_Band_called) := ok_Band_called (k := k + 2) T
  have G_Band_long : FnOk P w K mg base CX0 (k + 3) B.f_Band_long B.d_Band_long ["self"] (spF (Sx K B) 1 F_Band_long) := ok_Band_long (k := k + 2) T
  have G_are_bands : FnOk P w K mg base CX0 (k + 3) B.f_are_bands B.d_are_bands ["thing"] (spF (Sx K B) 1 F_are_bands) := ok_are_bands (k := k + 1) T
  have G_are_signs : FnOk P w K mg base CX0 (k + 3) B.f_are_signs B.d_are_signs ["thing"] (spF (Sx K B) 1 F_are_signs) := ok_are_signs (k := k + 0) T
  have G_fits : FnOk P w K mg base CX0 (k + 3) B.f_fits B.d_fits ["press", "signs", "longs"] (spF (Sx K B) 3 F_fits) := ok_fits (k := k + 1) T
  refine FunD.pui (c := 2) (m := 5) T.F_Work___init__ sc_Work___init__ rfl (fun cdv A outer s H E hr => ?_)
  have hr65 := units65 hr
  exact (ycons (yif (xnot (xttr rfl (sw (xcall G_are_signs hr (by rfl) T.m_are_signs T.F_are_signs.kp T.b_are_signs (xcons (xn (pv 1)) xnil)))))
      (yone ynever)
      ynil)
    (ycons (yif (xnot (xttr rfl (sw (xcall G_are_bands hr (by rfl) T.m_are_bands T.F_are_bands.kp T.b_are_bands (xcons (xn (pv 2)) xnil)))))
      (yone ynever)
      ynil)
    (ycons (yset (i := 4) nd rfl (.inr rfl) (fs (xdc (own := [("one", 5)]) rfl nd (isw (xit rfl (xn (pv 2)))) (blkOk_by (own := [("one", 5)]) (N := N_Work___init__) (sc := defScope s_Work___init__) (by decide +kernel)) (fun _ _ _ _ _ => (xgn (pg_name (i := 5) nd rfl (.inl rfl) (.inr rfl)))) (fun _ _ _ _ _ => xts0) (fun _ _ _ _ _ => (xmeth0 (c := 0) rfl (xn (pv 5)) (cl_Band T) (show ("called" : Str) ∉ nmsF 0 by decide +kernel) T.M_Band_called G_Band_called hr T.b_Band_called)) (fun _ _ _ _ _ => (xmeth0 (c := 0) rfl (xn (pv 5)) (cl_Band T) (show ("long" : Str) ∉ nmsF 0 by decide +kernel) T.M_Band_long G_Band_long hr T.b_Band_long)))))
    (ycons (yif (PW.pt (xor (xnot (xttr rfl (sw (xisi2 (t := .list) (u := .tuple) rfl (by rfl) T.z_isinstance (sw (xn (pv 3))) (pe_bltn (by rfl) T.z_list (by decide +kernel) (v := .ty "list") rfl) (pe_bltn (by rfl) T.z_tuple (by decide +kernel) (v := .ty "tuple") rfl))))) (xor1 (xtcmp op_gtDo (sw (xcallB1 (cr_lenD rfl) (by rfl) T.z_len (by decide +kernel) (sw (xn (pv 3))))) (sw (xc (C8.pe_gc (by rfl) T.g_MOST_PRESSES) (rep_MOST_PRESSES T))) (nomark _)))))
      (yone ynever)
      ynil)
    (ycons (yif (xnot (xttr rfl (sw (xcallB1 (cr_allD rfl rfl) (by rfl) T.z_all (by decide +kernel) (sw (fs (xlc (own := [("one", 5)]) rfl nd (isw (xit rfl (xn (pv 3)))) (blkOk_by (own := [("one", 5)]) (N := N_Work___init__) (sc := defScope s_Work___init__) (by decide +kernel)) (fun _ _ _ _ _ => (xgn (pg_name (i := 5) nd rfl (.inl rfl) (.inr rfl)))) (fun _ _ _ _ _ => xts0) (fun _ _ _ _ _ => (xcall G_fits hr (by rfl) T.m_fits T.F_fits.kp T.b_fits (xcons (xn (pv 5)) (xcons (xn (pv 1)) (xcons (xn (pv 4)) xnil))))))))))))
      (yone ynever)
      ynil)
    (ycons (yfldn (c := 2) (k := 0) rfl (cl_Work T) rfl (pv 0) (xn (pv 1)))
    (ycons (yfldn (c := 2) (k := 1) rfl (cl_Work T) rfl (pv 0) (xcallT1 (cr_tupleD rfl) (by rfl) T.z_tuple (by decide +kernel) (sw (xn (pv 2)))))
    (ycons (yfldn (c := 2) (k := 2) rfl (cl_Work T) rfl (pv 0) (xcallT1 (cr_tupleD rfl) (by rfl) T.z_tuple (by decide +kernel) (sw (xn (pv 3)))))
    (ycons (yfldn (c := 2) (k := 3) rfl (cl_Work T) rfl (pv 0) (fs (xlc2 (own := [("one", 5), ("number", 6)]) (vs1 := [6]) rfl nd (isw (xit rfl (xn (pv 2)))) (blkOk_by (own := [("one", 5), ("number", 6)]) (N := N_Work___init__) (sc := defScope s_Work___init__) (by decide +kernel)) (by decide) (fun _ _ _ _ _ => (xgn (pg_name (i := 5) nd rfl (.inl rfl) (.inr rfl)))) (fun _ _ _ _ _ => xts0) (fun _ _ _ _ _ => (xr1 (by rfl) T.z_range (sw (xmeth0 (c := 0) rfl (xn (pv 5)) (cl_Band T) (show ("long" : Str) ∉ nmsF 0 by decide +kernel) T.M_Band_long G_Band_long hr T.b_Band_long)))) (fun _ _ _ _ _ => (xgn (pg_name (i := 6) nd rfl (.inl rfl) (.inr rfl)))) (fun _ _ _ _ _ => xts0) (fun _ _ _ _ _ => (xtup (xcons (xmeth0 (c := 0) rfl (xn (pv 5)) (cl_Band T) (show ("called" : Str) ∉ nmsF 0 by decide +kernel) T.M_Band_called G_Band_called hr T.b_Band_called) (xcons (xn (pv 6)) xnil)))))))
    (yone (yfldn (c := 2) (k := 4) rfl (cl_Work T) rfl (pv 0) (fs (xdct (own := [("number", 6), ("place", 7)]) (hu_of hr) rfl nd (isw (xenum rfl (by rfl) T.z_enumerate (xfldo (c := 2) (i := 3) rfl (cl_Work T) rfl (pv 0)))) (blkOk_by (own := [("number", 6), ("place", 7)]) (N := N_Work___init__) (sc := defScope s_Work___init__) (by decide +kernel)) (fun _ _ _ _ _ => (xgtup (k := 2) rfl rfl (xgcons (xgn (pg_name (i := 6) nd rfl (.inl rfl) (.inr rfl))) (xgcons (xgn (pg_name (i := 7) nd rfl (.inl rfl) (.inr rfl))) xgnil)))) (fun _ _ _ _ _ => xts0) (fun _ _ _ _ _ => (xn (pv 7))) (fun _ _ _ _ _ => (xn (pv 6))))))))))))))))

abbrev s_Work_presses : Stmt := inClass (topS 37) 5
abbrev N_Work_presses : List Str := ["self"]
theorem sc_Work_presses : FnScope N_Work_presses ["self"] (defScope s_Work_presses) :=
  ⟨rfl, rfl, rfl, by decide +kernel, rfl, by decide +kernel, by decide +kernel⟩
theorem ok_Work_presses (T : Txt K mg B) : FnOk P w K mg base CX0 (k + 1) B.f_Work_presses B.d_Work_presses ["self"] (spF (Sx K B) 1 F_Work_presses) := by
  have nd := sc_Work_presses.nd
  refine Fun.pu T.F_Work_presses sc_Work_presses (fun cdv A outer s H E hr => ?_)
  have hr65 := units65 hr
  exact (yone (yret (fs (xcallT1F (cr_listD rfl rfl) (fun _ _ h => listD_no h) (by rfl) T.z_list (by decide +kernel) (sw (xfld (c := 2) (i := 2) rfl (cl_Work T) rfl (sw (xn (pv 0)))))))))

abbrev s_Work_has_place : Stmt := inClass (topS 37) 7
abbrev N_Work_has_place : List Str := ["self", "place"]
theorem sc_Work_has_place : FnScope N_Work_has_place ["self", "place"] (defScope s_Work_has_place) :=
  ⟨rfl, rfl, rfl, by decide +kernel, rfl, by decide +kernel, by decide +kernel⟩
theorem ok_Work_has_place (T : Txt K mg B) : FnOk P w K mg base CX0 (k + 4) B.f_Work_has_place B.d_Work_has_place ["self", "place"] (spF (Sx K B) 2 F_Work_has_place) := by
  have nd := sc_Work_has_place.nd
  have G_is_place : FnOk P w K mg base CX0 (k + 3) B.f_is_place B.d_is_place ["thing"] (spF (Sx K B) 1 F_is_place) := ok_is_place (k := k + 0) T
  refine Fun.pu T.F_Work_has_place sc_Work_has_place (fun cdv A outer s H E hr => ?_)
  have hr65 := units65 hr
  exact (yone (yret (xandv (xcall G_is_place hr (by rfl) T.m_is_place T.F_is_place.kp T.b_is_place (xcons (xn (pv 1)) xnil)) (xone (xcmp (op_inDo rfl hr65) (sw (xn (pv 1))) (sw (xfld (c := 2) (i := 4) rfl (cl_Work T) rfl (sw (xn (pv 0))))) rfl)))))

abbrev s_Work_place_in : Stmt := inClass (topS 37) 8
abbrev N_Work_place_in : List Str := ["self", "place"]
theorem sc_Work_place_in : FnScope N_Work_place_in ["self", "place"] (defScope s_Work_place_in) :=
  ⟨rfl, rfl, rfl, by decide +kernel, rfl, by decide +kernel, by decide +kernel⟩
theorem ok_Work_place_in (T : Txt K mg B) : FnOk P w K mg base CX0 (k + 5) B.f_Work_place_in B.d_Work_place_in ["self", "place"] (spF (Sx K B) 2 F_Work_place_in) := by
  have nd := sc_Work_place_in.nd
  have G_Work_has_place : FnOk P w K mg base CX0 (k + 4) B.f_Work_has_place B.d_Work_has_place ["self", "place"] (spF (Sx K B) 2 F_Work_has_place) := ok_Work_has_place (k := k + 0) T
  refine Fun.pu T.F_Work_place_in sc_Work_place_in (fun cdv A outer s H E hr => ?_)
  have hr65 := units65 hr
  exact (ycons (yif (xnot (xttr rfl (sw (xmeth (c := 2) rfl (xn (pv 0)) (cl_Work T) (show ("has_place" : Str) ∉ nmsF 2 by decide +kernel) T.M_Work_has_place G_Work_has_place hr T.b_Work_has_place (xcons (xn (pv 1)) xnil)))))
      (yone ynever)
      ynil)
    (yone (yret (xidx rfl (hu_of hr) (sw (xfld (c := 2) (i := 4) rfl (cl_Work T) rfl (sw (xn (pv 0))))) (sw (xn (pv 1))) (fun _ _ => rfl)))))

abbrev s_Work_band_of : Stmt := inClass (topS 37) 9
abbrev N_Work_band_of : List Str := ["self", "name", "one"]
theorem sc_Work_band_of : FnScope N_Work_band_of ["self", "name"] (defScope s_Work_band_of) :=
  ⟨rfl, rfl, rfl, by decide +kernel, rfl, by decide +kernel, by decide +kernel⟩
theorem ok_Work_band_of (T : Txt K mg B) : FnOk P w K mg base CX0 (k + 2) B.f_Work_band_of B.d_Work_band_of ["self", "name"] (spF (Sx K B) 2 F_Work_band_of) := by
  have nd := sc_Work_band_of.nd
  have G_Band_called : FnOk P w K mg base CX0 (k + 1) B.f_Band_called B.d_Band_called ["self"] (spF (Sx K B) 1 F_Band_called) := ok_Band_called (k := k + 0) T
  refine Fun.pu T.F_Work_band_of sc_Work_band_of (fun cdv A outer s H E hr => ?_)
  have hr65 := units65 hr
  exact (yone (yret (xidx rfl (hu_of hr) (sw (xbin (op_addD rfl) (sw (fs (xlc (own := [("one", 2)]) rfl nd (isw (xit rfl (xfld (c := 2) (i := 1) rfl (cl_Work T) rfl (sw (xn (pv 0)))))) (blkOk_by (own := [("one", 2)]) (N := N_Work_band_of) (sc := defScope s_Work_band_of) (by decide +kernel)) (fun _ _ _ _ _ => (xgn (pg_name (i := 2) nd rfl (.inl rfl) (.inr rfl)))) (fun _ _ _ _ _ => (xts1 (xtcmp (op_eqDo rfl hr.units) (sw (xmeth0 (c := 0) rfl (xn (pv 2)) (cl_Band T) (show ("called" : Str) ∉ nmsF 0 by decide +kernel) T.M_Band_called G_Band_called hr T.b_Band_called)) (sw (xn (pv 1))) (nomark _)))) (fun _ _ _ _ _ => (xn (pv 2)))))) (sw (fs (xlst (xcons xnon xnil)))))) (sw xint) (fun _ _ => rfl))))

abbrev s_need_press : Stmt := topS 38
abbrev N_need_press : List Str := ["work", "number"]
theorem sc_need_press : FnScope N_need_press ["work", "number"] (defScope s_need_press) :=
  ⟨rfl, rfl, rfl, by decide +kernel, rfl, by decide +kernel, by decide +kernel⟩
theorem ok_need_press (T : Txt K mg B) : FnOk P w K mg base CX0 (k + 2) B.f_need_press B.d_need_press ["work", "number"] (spF (Sx K B) 2 F_need_press) := by
  have nd := sc_need_press.nd
  have G_Work_presses : FnOk P w K mg base CX0 (k + 1) B.f_Work_presses B.d_Work_presses ["self"] (spF (Sx K B) 1 F_Work_presses) := ok_Work_presses (k := k + 0) T
  have G_is_whole : FnOk P w K mg base CX0 (k + 1) B.f_is_whole B.d_is_whole ["thing", "least", "most"] (spF (Sx K B) 3 F_is_whole) := ok_is_whole (k := k + 0) T
  refine Fun.pu T.F_need_press sc_need_press (fun cdv A outer s H E hr => ?_)
  have hr65 := units65 hr
  exact (ycons (yif (xnot (xttr rfl (sw (xcall G_is_whole hr (by rfl) T.m_is_whole T.F_is_whole.kp T.b_is_whole (xcons (xn (pv 1)) (xcons xint (xcons (xbin op_subD (sw (xcallB1 (cr_lenD rfl) (by rfl) T.z_len (by decide +kernel) (sw (xmeth0 (c := 2) rfl (xn (pv 0)) (cl_Work T) (show ("presses" : Str) ∉ nmsF 2 by decide +kernel) T.M_Work_presses G_Work_presses hr T.b_Work_presses)))) (sw xint)) xnil)))))))
      (yone ynever)
      ynil)
    (yone (yret (xidx rfl (hu_of hr) (sw (xmeth0 (c := 2) rfl (xn (pv 0)) (cl_Work T) (show ("presses" : Str) ∉ nmsF 2 by decide +kernel) T.M_Work_presses G_Work_presses hr T.b_Work_presses)) (sw (xn (pv 1))) (fun _ _ => rfl)))))

abbrev s_where : Stmt := topS 42
abbrev N_where : List Str := ["work", "place", "beats", "band"]
theorem sc_where : FnScope N_where ["work", "place", "beats"] (defScope s_where) :=
  ⟨rfl, rfl, rfl, by decide +kernel, rfl, by decide +kernel, by decide +kernel⟩
theorem ok_where (T : Txt K mg B) : FnOk P w K mg base CX0 (k + 6) B.f_where B.d_where ["work", "place", "beats"] (spF (Sx K B) 3 F_where) := by
  have nd := sc_where.nd
  have G_Band_long : FnOk P w K mg base CX0 (k + 5) B.f_Band_long B.d_Band_long ["self"] (spF (Sx K B) 1 F_Band_long) := ok_Band_long (k := k + 4) T
  have G_Band_pace : FnOk P w K mg base CX0 (k + 5) B.f_Band_pace B.d_Band_pace ["self"] (spF (Sx K B) 1 F_Band_pace) := ok_Band_pace (k := k + 4) T
  have G_Work_band_of : FnOk P w K mg base CX0 (k + 5) B.f_Work_band_of B.d_Work_band_of ["self", "name"] (spF (Sx K B) 2 F_Work_band_of) := ok_Work_band_of (k := k + 3) T
  have G_Work_place_in : FnOk P w K mg base CX0 (k + 5) B.f_Work_place_in B.d_Work_place_in ["self", "place"] (spF (Sx K B) 2 F_Work_place_in) := ok_Work_place_in (k := k + 0) T
  refine Fun.pu T.F_where sc_where (fun cdv A outer s H E hr => ?_)
  have hr65 := units65 hr
  exact (ycons (yexpr (sw (xmeth (c := 2) rfl (xn (pv 0)) (cl_Work T) (show ("place_in" : Str) ∉ nmsF 2 by decide +kernel) T.M_Work_place_in G_Work_place_in hr T.b_Work_place_in (xcons (xn (pv 1)) xnil))))
    (ycons (yset (i := 3) nd rfl (.inl rfl) (xmeth (c := 2) rfl (xn (pv 0)) (cl_Work T) (show ("band_of" : Str) ∉ nmsF 2 by decide +kernel) T.M_Work_band_of G_Work_band_of hr T.b_Work_band_of (xcons (xidx rfl (hu_of hr) (sw (xn (pv 1))) (sw xint) (fun _ _ => rfl)) xnil)))
    (yone (yret (xtup (xcons (xidx rfl (hu_of hr) (sw (xn (pv 1))) (sw xint) (fun _ _ => rfl)) (xcons (xbin op_modD (sw (xbin (op_addD rfl) (sw (xidx rfl (hu_of hr) (sw (xn (pv 1))) (sw xint) (fun _ _ => rfl))) (sw (xbin op_mulD (sw (xmeth0 (c := 0) rfl (xn (pv 3)) (cl_Band T) (show ("pace" : Str) ∉ nmsF 0 by decide +kernel) T.M_Band_pace G_Band_pace hr T.b_Band_pace)) (sw (xn (pv 2))))))) (sw (xmeth0 (c := 0) rfl (xn (pv 3)) (cl_Band T) (show ("long" : Str) ∉ nmsF 0 by decide +kernel) T.M_Band_long G_Band_long hr T.b_Band_long))) xnil)))))))

abbrev s_passes : Stmt := topS 43
abbrev N_passes : List Str := ["work", "press", "side", "place", "stamp", "spot", "many", "beats", "beat"]
theorem sc_passes : FnScope N_passes ["work", "press", "side", "place"] (defScope s_passes) :=
  ⟨rfl, rfl, rfl, by decide +kernel, rfl, by decide +kernel, by decide +kernel⟩
theorem ok_passes (T : Txt K mg B) : FnOk P w K mg base CX0 (k + 7) B.f_passes B.d_passes ["work", "press", "side", "place"] (spF (Sx K B) 4 F_passes) := by
  have nd := sc_passes.nd
  have G_Band_long : FnOk P w K mg base CX0 (k + 6) B.f_Band_long B.d_Band_long ["self"] (spF (Sx K B) 1 F_Band_long) := ok_Band_long (k := k + 5) T
  have G_Press_above : FnOk P w K mg base CX0 (k + 6) B.f_Press_above B.d_Press_above ["self"] (spF (Sx K B) 1 F_Press_above) := ok_Press_above (k := k + 5) T
  have G_Press_below : FnOk P w K mg base CX0 (k + 6) B.f_Press_below B.d_Press_below ["self"] (spF (Sx K B) 1 F_Press_below) := ok_Press_below (k := k + 5) T
  have G_Press_has_beat : FnOk P w K mg base CX0 (k + 6) B.f_Press_has_beat B.d_Press_has_beat ["self", "beat"] (spF (Sx K B) 2 F_Press_has_beat) := ok_Press_has_beat (k := k + 5) T
  have G_Press_rhythm : FnOk P w K mg base CX0 (k + 6) B.f_Press_rhythm B.d_Press_rhythm ["self"] (spF (Sx K B) 1 F_Press_rhythm) := ok_Press_rhythm (k := k + 5) T
  have G_Work_band_of : FnOk P w K mg base CX0 (k + 6) B.f_Work_band_of B.d_Work_band_of ["self", "name"] (spF (Sx K B) 2 F_Work_band_of) := ok_Work_band_of (k := k + 4) T
  have G_Work_place_in : FnOk P w K mg base CX0 (k + 6) B.f_Work_place_in B.d_Work_place_in ["self", "place"] (spF (Sx K B) 2 F_Work_place_in) := ok_Work_place_in (k := k + 1) T
  have G_common_multiple : FnOk P w K mg base CX0 (k + 6) B.f_common_multiple B.d_common_multiple ["one", "other"] (spF (Sx K B) 2 F_common_multiple) := ok_common_multiple (k := k + 4) T
  have G_need_press : FnOk P w K mg base CX0 (k + 6) B.f_need_press B.d_need_press ["work", "number"] (spF (Sx K B) 2 F_need_press) := ok_need_press (k := k + 4) T
  have G_where : FnOk P w K mg base CX0 (k + 6) B.f_where B.d_where ["work", "place", "beats"] (spF (Sx K B) 3 F_where) := ok_where (k := k + 0) T
  refine Fun.pu T.F_passes sc_passes (fun cdv A outer s H E hr => ?_)
  have hr65 := units65 hr
  exact (ycons (yset (i := 4) nd rfl (.inr rfl) (xcall G_need_press hr (by rfl) T.m_need_press T.F_need_press.kp T.b_need_press (xcons (xn (pv 0)) (xcons (xn (pv 1)) xnil))))
    (ycons (yif (PW.pt (xor (xnot (xttr rfl (sw (xisi (t := .str) rfl (by rfl) T.z_isinstance (sw (xn (pv 2))) (pe_bltn (by rfl) T.z_str (by decide +kernel) (v := .ty "str") rfl))))) (xor1 (xtcmp (op_ninDo rfl hr65) (sw (xn (pv 2))) (sw (xc (C8.pe_gc (by rfl) T.g_SIDES) (rep_SIDES T))) rfl))))
      (yone ynever)
      ynil)
    (ycons (yexpr (sw (xmeth (c := 2) rfl (xn (pv 0)) (cl_Work T) (show ("place_in" : Str) ∉ nmsF 2 by decide +kernel) T.M_Work_place_in G_Work_place_in hr T.b_Work_place_in (xcons (xn (pv 3)) xnil))))
    (ycons (yset (i := 5) nd rfl (.inr rfl) (xif (xtcmp (op_eqDo rfl hr.units) (sw (xn (pv 2))) (sw (xc (C8.pe_gc (by rfl) T.g_ABOVE) (rep_ABOVE T))) (nomark _)) (xmeth0 (c := 1) rfl (xn (pv 4)) (cl_Press T) (show ("above" : Str) ∉ nmsF 1 by decide +kernel) T.M_Press_above G_Press_above hr T.b_Press_above) (xmeth0 (c := 1) rfl (xn (pv 4)) (cl_Press T) (show ("below" : Str) ∉ nmsF 1 by decide +kernel) T.M_Press_below G_Press_below hr T.b_Press_below)))
    (ycons (yset (i := 6) nd rfl (.inl rfl) (xcall G_common_multiple hr (by rfl) T.m_common_multiple T.F_common_multiple.kp T.b_common_multiple (xcons (xmeth0 (c := 0) rfl (xmeth (c := 2) rfl (xn (pv 0)) (cl_Work T) (show ("band_of" : Str) ∉ nmsF 2 by decide +kernel) T.M_Work_band_of G_Work_band_of hr T.b_Work_band_of (xcons (xidx rfl (hu_of hr) (sw (xn (pv 3))) (sw xint) (fun _ _ => rfl)) xnil)) (cl_Band T) (show ("long" : Str) ∉ nmsF 0 by decide +kernel) T.M_Band_long G_Band_long hr T.b_Band_long) (xcons (xcallB1 (cr_lenD rfl) (by rfl) T.z_len (by decide +kernel) (sw (xmeth0 (c := 1) rfl (xn (pv 4)) (cl_Press T) (show ("rhythm" : Str) ∉ nmsF 1 by decide +kernel) T.M_Press_rhythm G_Press_rhythm hr T.b_Press_rhythm))) xnil))))
    (ycons (ysetlc (i := 7) (own := [("beat", 8)]) rfl nd rfl rfl (sw_true rfl rfl rfl (by decide +kernel)) (isw (xr2 (by rfl) T.z_range (sw xint) (sw (xbin (op_addD rfl) (sw (xn (pv 6))) (sw xint))))) (blkOk_by (own := [("beat", 8)]) (N := N_passes) (sc := defScope s_passes) (by decide +kernel)) (fun _ _ _ _ _ => (xgn (pg_name (i := 8) nd rfl (.inl rfl) (.inr rfl)))) (fun _ _ _ _ _ => (xts1 (PW.pt (xand (xttr rfl (sw (xmeth (c := 1) rfl (xn (pv 4)) (cl_Press T) (show ("has_beat" : Str) ∉ nmsF 1 by decide +kernel) T.M_Press_has_beat G_Press_has_beat hr T.b_Press_has_beat (xcons (xn (pv 8)) xnil)))) (xand1 (xtcmp (op_eqDo rfl hr.units) (sw (xcall G_where hr (by rfl) T.m_where T.F_where.kp T.b_where (xcons (xn (pv 0)) (xcons (xn (pv 3)) (xcons (xn (pv 8)) xnil))))) (sw (xn (pv 5))) (nomark _))))))) (fun _ _ _ _ _ => (xn (pv 8))))
    (yone (yret (xtup (xcons (xn (pv 6)) (xcons (xn (pv 7)) xnil)))))))))))

abbrev s_how_many_passes : Stmt := topS 44
abbrev N_how_many_passes : List Str := ["work", "press", "side", "place", "upto", "many", "beats", "rest", "beat"]
theorem sc_how_many_passes : FnScope N_how_many_passes ["work", "press", "side", "place", "upto"] (defScope s_how_many_passes) :=
  ⟨rfl, rfl, rfl, by decide +kernel, rfl, by decide +kernel, by decide +kernel⟩
theorem ok_how_many_passes (T : Txt K mg B) : FnOk P w K mg base CX0 (k + 8) B.f_how_many_passes B.d_how_many_passes ["work", "press", "side", "place", "upto"] (spF (Sx K B) 5 F_how_many_passes) := by
  have nd := sc_how_many_passes.nd
  have G_passes : FnOk P w K mg base CX0 (k + 7) B.f_passes B.d_passes ["work", "press", "side", "place"] (spF (Sx K B) 4 F_passes) := ok_passes (k := k + 0) T
  refine Fun.pu T.F_how_many_passes sc_how_many_passes (fun cdv A outer s H E hr => ?_)
  have hr65 := units65 hr
  exact (ycons (yasg (xcall G_passes hr (by rfl) T.m_passes T.F_passes.kp T.b_passes (xcons (xn (pv 0)) (xcons (xn (pv 1)) (xcons (xn (pv 2)) (xcons (xn (pv 3)) xnil))))) (xgtup (k := 2) rfl rfl (xgcons (xgn (pg_name (i := 5) nd rfl (.inl rfl))) (xgcons (xgn (pg_name (i := 6) nd rfl (.inl rfl))) xgnil))))
    (ycons (yset (i := 7) nd rfl (.inr rfl) (xbin op_modD (sw (xn (pv 4))) (sw (xn (pv 5)))))
    (yone (yret (xbin (op_addD rfl) (sw (xbin op_mulD (sw (xbin op_fdivD (sw (xn (pv 4))) (sw (xn (pv 5))))) (sw (xcallB1 (cr_lenD rfl) (by rfl) T.z_len (by decide +kernel) (sw (xn (pv 6))))))) (sw (xcallB1 (cr_lenD rfl) (by rfl) T.z_len (by decide +kernel) (sw (fs (xlc (own := [("beat", 8)]) rfl nd (isw (xit rfl (xn (pv 6)))) (blkOk_by (own := [("beat", 8)]) (N := N_how_many_passes) (sc := defScope s_how_many_passes) (by decide +kernel)) (fun _ _ _ _ _ => (xgn (pg_name (i := 8) nd rfl (.inl rfl) (.inr rfl)))) (fun _ _ _ _ _ => (xts1 (xtcmp op_leDo (sw (xn (pv 8))) (sw (xn (pv 7))) (nomark _)))) (fun _ _ _ _ _ => (xn (pv 8)))))))))))))

end
end K05
set_option Elab.async false
set_option linter.all false
set_option maxRecDepth 100000
set_option maxHeartbeats 4000000
namespace K05
open PySem PySem.Spec PyProof.Rows L2 Fd Tx Pu Pg
section
variable {P : Program} {w : World} {K : PySem.W.Frag} {mg : Str → Option Value} {base : Heap} {B : Fs} {k : Nat}
/-! ### _law_draw -/
abbrev s__law_draw : Stmt := topS 48
abbrev N__law_draw : List Str := ["_law_feed_here", "_law_many", "_law_digit", "_law_at", "_law_cell", "_law_mixed"]
theorem sc__law_draw : FnScope N__law_draw ["_law_feed_here", "_law_many"] (defScope s__law_draw) :=
  ⟨rfl, rfl, rfl, by decide +kernel, rfl, by decide +kernel, by decide +kernel⟩
theorem okB__law_draw (T : Txt K mg B) : FnOk P w K mg base CX0 (k + 1) B.f__law_draw B.d__law_draw ["_law_feed_here", "_law_many"] spDrawB := by
  refine T.F__law_draw.ok sc__law_draw (fun vs H Q E h => ?_) (fun cdv A outer s H vs Q E hr h => ?_)
  · obtain ⟨d, l, cs, n, m, rfl, _⟩ := h
    rfl
  · obtain ⟨d, l, cs, n, m, rfl, F, hn, hm, hm2, q⟩ := h
    obtain ⟨⟨a, f, ha, e⟩, hl, hlen⟩ := id F
    have hu := hu_of hr
    have nd := sc__law_draw.nd
    refine ⟨_, (pss_cons (ps_if (pt_cmpR op_gt (pe_dget hu (pv 0) pe_str (fun _ _ => rfl)) pe_int (nomark _))
          (pss_cons (ps_set (i := 2) nd rfl (.inl rfl) (pe_op op_mod (pe_dget hu (pv 0) pe_str (fun _ _ => rfl)) (pv 1)))
            (pss_cons (ps_dput hu (pv 0) pe_str (pe_op op_fdivW (pe_dget hu (pv 0) pe_str (fun _ _ => rfl)) (pv 1)) rfl)
            (pss_one (ps_ret (pv 2)))))
          pss_nil)
      (pss_cons (ps_set (i := 3) nd rfl (.inl rfl) (pe_dget hu (pv 0) pe_str (fun _ _ => rfl)))
      (pss_cons (ps_dput hu (pv 0) pe_str (pe_op op_add (pv 3) pe_int) rfl)
      (pss_cons (ps_set (i := 4) nd rfl (.inl rfl) (pe_op op_add (pe_op op_add (pe_op op_mul (pe_op op_mul pe_int (pv 3)) (pv 3)) (pe_op op_mul pe_int (pv 3))) pe_int))
      (C8.pss_cut (ps_if (pt_cmpR (op_neD hr.units) (pe_dget hu (pv 0) pe_str (fun _ _ => rfl)) (pe_lst pa_nil) (nomark _))
          (pss_one (ps_set (i := 4) nd rfl (.inl rfl) (pe_op op_add (pv 4) (pe_ix ix_list (pe_dget hu (pv 0) pe_str (fun _ _ => rfl)) (pe_op op_mod (pv 3) (pe_callB call_len_seq (by rfl) T.z_len (by decide +kernel) (pa_cons (pe_dget hu (pv 0) pe_str (fun _ _ => rfl)) pa_nil))) (fun _ _ => rfl)))))
          pss_nil)
      (C8.pss_cut (ps_if (PW.pt (pw_and (pt_cmpR op_lt (pv 3) (pe_callB call_len_seq (by rfl) T.z_len (by decide +kernel) (pa_cons (pe_dget hu (pv 0) pe_str (fun _ _ => rfl)) pa_nil)) (nomark _)) (pw_and1 (pt_cmpR op_ge (pe_callB call_abs (by rfl) T.z_abs (by decide +kernel) (pa_cons (pv 4) pa_nil)) (pe_op op_pow pe_int pe_int) (nomark _)))))
          (pss_cons (ps_dput hu (pv 0) pe_str (pe_op op_fdivW (pe_op op_sub (pe_callB call_abs (by rfl) T.z_abs (by decide +kernel) (pa_cons (pv 4) pa_nil)) (pe_op op_pow pe_int pe_int)) (pv 1)) rfl)
            (pss_one (ps_ret (pe_op op_mod (pe_op op_sub (pe_callB call_abs (by rfl) T.z_abs (by decide +kernel) (pa_cons (pv 4) pa_nil)) (pe_op op_pow pe_int pe_int)) (pv 1)))))
          pss_nil)
      (pss_cons (ps_set (i := 5) nd rfl (.inl rfl) (pe_op op_mod (pe_op op_add (pe_op op_mul (pv 4) pe_int) (pe_op op_mul pe_int (pe_op op_add (pv 3) pe_int))) pe_int))
      (pss_cons (ps_set (i := 5) nd rfl (.inl rfl) (pe_op op_mod (pe_op op_mul (pv 5) (pe_op op_add (pv 5) pe_int)) pe_int))
      (pss_one (ps_ret (pe_op op_mod (pe_op op_fdivW (pv 5) pe_int) (pv 1)))))))))))), ?_⟩
    -- if feed["left"] > 0
    refine ⟨_, rfl, d, _, rfl, dg_left e, _, _, rfl, rfl, _, rfl, ite2 (fun c => ?_) (fun c => ?_)⟩
    · refine ⟨_, rfl, d, _, rfl, dg_left e, _, rfl, _, _, rfl, rfl, hm, ?_⟩
      refine ⟨_, rfl, d, _, rfl, dg_left e, _, rfl, _, _, rfl, rfl, divB hm hm2, _, rfl, d, _, rfl, dp_left e, ?_⟩
      refine ⟨_, rfl, ?_⟩
      obtain ⟨r, er, hr'⟩ := digit (x := f) hm
      have z := q r (upd H d (.dK (feedK l a (f / m)))) hr' ⟨⟨a, _, by omega, upd_same⟩, by rw [upd_ne F.ne]; exact hl, hlen⟩ keep_upd
      rw [er] at z
      exact z
    · -- at
      refine ⟨_, rfl, d, _, rfl, dg_at e, ?_⟩
      refine ⟨_, rfl, _, _, rfl, rfl, _, rfl, d, _, rfl, dp_at e, ?_⟩
      have e1 : (upd H d (.dK (feedK l ((a : Int) + 1) f))) d = some (.dK (feedK l ((a : Int) + 1) f)) := upd_same
      have hl1 : (upd H d (.dK (feedK l ((a : Int) + 1) f))) l = some (.lst (cs.map V.int)) := by
        rw [upd_ne F.ne]
        exact hl
      have k1 : Keep d H (upd H d (.dK (feedK l ((a : Int) + 1) f))) := keep_upd
      generalize upd H d (.dK (feedK l ((a : Int) + 1) f)) = H1 at e1 hl1 k1 ⊢
      refine ⟨_, rfl, _, _, rfl, rfl, .inl ⟨by decide, by decide⟩, _, rfl, _, _, rfl, rfl, .inr ⟨?_, ?_⟩, _, rfl, _, _, rfl, rfl, .inl ⟨by decide, by decide⟩, _, _, rfl, rfl, _, _, rfl, rfl, ?_⟩
      · show -(2 ^ 64) < (a : Int)
        omega
      · show (a : Int) < 2 ^ 64
        omega
      -- if cells != []
      refine ⟨fun σ H2 => ∃ x : Int, σ = [some (.ref d), some (.int m), none, some (.int a), some (.int x), none] ∧ H2 d = some (.dK (feedK l ((a : Int) + 1) f)) ∧ H2 l = some (.lst (cs.map V.int)) ∧ Keep d H H2, ?_, ?_⟩
      · refine ⟨_, rfl, d, _, rfl, dg_cells e1, Nat.zero_le _, fun p np => ?_⟩
        have e2 : (upd H1 p (.lst [])) d = some (.dK (feedK l ((a : Int) + 1) f)) := by
          rw [upd_ne (ne_of_none e1 np)]
          exact e1
        have hl2 : (upd H1 p (.lst [])) l = some (.lst (cs.map V.int)) := by
          rw [upd_ne (ne_of_none hl1 np)]
          exact hl1
        have k2 : Keep d H (upd H1 p (.lst [])) := k1.trans (keep_new np)
        refine ⟨.list (cs.map PyData.int), .list [], .lst (.inl (.inl hl2)) (dp_ints cs), .lst (.inl (.inl upd_same)) .nil, PySem.W.ke_shaped_ints cs, by decide, _, rfl, ?_⟩
        rw [eqv_nil]
        cases cs with
        | nil => exact iteF ⟨_, rfl, e2, hl2, k2⟩
        | cons c0 cs0 =>
          refine iteT ?_
          have hp : 0 < (c0 :: cs0).length := Nat.succ_pos _
          have hlt : a % (c0 :: cs0).length < (c0 :: cs0).length := Nat.mod_lt _ hp
          have ei : ((a : Int) % (((c0 :: cs0).map V.int).length : Int)) = ((a % (c0 :: cs0).length : Nat) : Int) := by
            rw [List.length_map, Int.natCast_emod]
          have g : atI ((c0 :: cs0).map V.int) ((a : Int) % (((c0 :: cs0).map V.int).length : Int)) = some (.int (c0 :: cs0)[a % (c0 :: cs0).length]) := by
            rw [ei]
            refine atI_nat ?_
            rw [List.getElem?_map, List.getElem?_eq_getElem hlt]
            rfl
          refine ⟨_, rfl, _, rfl, d, _, rfl, dg_cells e2, _, rfl, _, rfl, d, _, rfl, dg_cells e2, l, _, rfl, .inl (.inl (.inl hl2)), _, _, rfl, rfl, ?_, l, _, _, _, rfl, rfl, .inl (.inl hl2), g, _, _, rfl, rfl, ?_⟩
          · show (0 : Int) < (((c0 :: cs0).map V.int).length : Int)
            rw [List.length_map]
            omega
          · exact ⟨_, rfl, e2, hl2, k2⟩
      · rintro σ H2 ⟨x, rfl, e2, hl2, k2⟩
        have fin : ∀ (y : Int) (b : Int) (H3 : Hp), H3 d = some (.dK (feedK l ((a : Int) + 1) b)) → H3 l = some (.lst (cs.map V.int)) → Keep d H H3 → Q (.int (y % m)) H3 := fun y b H3 e3 hl3 k3 => by
          obtain ⟨r, er, hr'⟩ := digit (x := y) hm
          have z := q r H3 hr' ⟨⟨a + 1, b, by omega, e3⟩, hl3, hlen⟩ k3
          rw [er] at z
          exact z
        -- if at < len(cells) and abs(cell) >= 10 ** 18
        refine ⟨fun σ H3 => σ = [some (.ref d), some (.int m), none, some (.int a), some (.int x), none] ∧ H3 = H2, ?_, ?_⟩
        · refine ⟨_, rfl, _, rfl, d, _, rfl, dg_cells e2, l, _, rfl, .inl (.inl (.inl hl2)), _, _, rfl, rfl, _, rfl, ?_⟩
          refine ite2 (fun c1 => ?_) (fun c1 => iteF ⟨rfl, rfl⟩)
          refine ⟨_, rfl, _, rfl, _, _, rfl, rfl, ⟨by decide, by decide, by decide⟩, _, _, rfl, rfl, _, rfl, ite2 (fun c2 => ?_) (fun c2 => ⟨rfl, rfl⟩)⟩
          refine ⟨_, rfl, _, rfl, _, _, rfl, rfl, ⟨by decide, by decide, by decide⟩, _, _, rfl, rfl, _, rfl, _, _, rfl, rfl, divB hm hm2, _, rfl, d, _, rfl, dp_left e2, ?_⟩
          refine ⟨_, rfl, _, rfl, _, _, rfl, rfl, ⟨by decide, by decide, by decide⟩, _, _, rfl, rfl, _, rfl, _, _, rfl, rfl, hm, ?_⟩
          exact fin _ _ _ upd_same (by rw [upd_ne F.ne]; exact hl2) (k2.trans keep_upd)
        · rintro σ H3 ⟨rfl, rfl⟩
          refine ⟨_, rfl, _, _, rfl, rfl, .inr ⟨by decide, by decide⟩, _, rfl, _, _, rfl, rfl, _, _, rfl, rfl, .inl ⟨by decide, by decide⟩, _, _, rfl, rfl, _, _, rfl, rfl, (show (0 : Int) < 18446744073709551557 by decide), ?_⟩
          generalize hy : (x * 6364136223846793005 + 1442695040888963407 * ((a : Int) + 1)) % 18446744073709551557 = y
          have y0 : 0 ≤ y := by rw [← hy]; exact Int.emod_nonneg _ (by decide)
          have y1 : y < 18446744073709551557 := by rw [← hy]; exact Int.emod_lt_of_pos _ (by decide)
          refine ⟨_, rfl, _, rfl, _, _, rfl, rfl, _, _, rfl, rfl, .inl ⟨?_, ?_⟩, _, _, rfl, rfl, (show (0 : Int) < 18446744073709551557 by decide), ?_⟩
          · show -(2 ^ 64) < (x * 6364136223846793005 + 1442695040888963407 * ((a : Int) + 1)) % 18446744073709551557
            omega
          · show (x * 6364136223846793005 + 1442695040888963407 * ((a : Int) + 1)) % 18446744073709551557 < 2 ^ 64
            omega
          refine ⟨_, rfl, _, _, rfl, rfl, divB (by decide) (by decide), _, rfl, _, _, rfl, rfl, hm, ?_⟩
          exact fin _ _ _ e2 hl2 k2
/-! ### _law_feed -/
abbrev s__law_feed : Stmt := topS 47
abbrev N__law_feed : List Str := ["_law_script", "_law_cell"]
theorem sc__law_feed : FnScope N__law_feed ["_law_script"] (defScope s__law_feed) :=
  ⟨rfl, rfl, rfl, by decide +kernel, rfl, by decide +kernel, by decide +kernel⟩
theorem okB__law_feed (T : Txt K mg B) : FnOk P w K mg base CX0 (k + 1) B.f__law_feed B.d__law_feed ["_law_script"] (spFeed K) := by
  refine T.F__law_feed.ok sc__law_feed (fun vs H Q E h => ?_) (fun cdv A outer s H vs Q E hr h => ?_)
  · obtain ⟨p, ns, rfl, _⟩ := h
    rfl
  · obtain ⟨a, ns, rfl, hS, hlen, q⟩ := h
    have nd := sc__law_feed.nd
    refine ⟨_, (pss_one (ps_ret (pe_disp (pps_cons pe_str (pe_lc (own := [("_law_cell", 1)]) rfl nd (pi_list (pe_slice sl_list (pv 0) po_none (po_some pe_int))) (blkOk_by (own := [("_law_cell", 1)]) (N := N__law_feed) (sc := defScope s__law_feed) (by decide +kernel)) (fun _ _ _ _ _ => (pg_name (i := 1) nd rfl (.inl rfl))) (fun _ _ _ _ _ => pts_nil) (fun _ _ _ _ _ => (pv 1))) (pps_cons pe_str pe_int (pps_cons pe_str pe_int pps_nil))) (by rfl) (by rfl) (fun z => by cases z) (by decide)))), ?_⟩
    intro p np
    have s1 : Same H (upd H p (.dK [])) := same_new np
    have e1 : (upd H p (.dK [])) p = some (.dK []) := upd_same
    generalize upd H p (.dK []) = H1 at s1 e1 ⊢
    obtain ⟨cs, ecs, hcs⟩ := cut_ints ns none (some 63)
    refine ⟨_, rfl, 63, rfl, a, ns.map V.int, rfl, s1.seq hS, fun c nc => ?_⟩
    rw [ecs]
    have s2 : Same H1 (upd H1 c (.lst (cs.map V.int))) := same_new nc
    have e2 : (upd H1 c (.lst (cs.map V.int))) c = some (.lst (cs.map V.int)) := upd_same
    generalize upd H1 c (.lst (cs.map V.int)) = H2 at s2 e2 ⊢
    refine ⟨c, rfl, ⟨_, .inl (.inl e2)⟩, fun D nD => ?_⟩
    have hD : H D = none := (s1.trans s2).free nD
    refine lc_list (K := K) (a := c) (xs := cs.map V.int) (fun i H' => Same H2 H' ∧ H' D = some (.lst ((cs.take i).map V.int))) ⟨same_new nD, upd_same⟩ (fun i H' _ h => .inl (.inl (h.1 _ _ e2))) (fun i x H' hx h => ?_) (fun H' h => ?_)
    · refine ⟨rfl, _, rfl, _, h.2, ?_, ?_, ?_⟩
      · rw [List.length_map, List.length_take]
        exact small1000 (by omega)
      · intro b o e
        rw [upd_ne (ne_of_none e nD)]
        exact h.1 b o e
      · rw [upd_same]
        obtain ⟨z, hz, rfl⟩ : ∃ z, cs[i]? = some z ∧ x = V.int z := by
          rw [List.getElem?_map] at hx
          cases hc : cs[i]? with
          | none => rw [hc] at hx; cases hx
          | some z => rw [hc] at hx; cases hx; exact ⟨z, rfl, rfl⟩
        rw [List.take_add_one, hz, List.map_append]
        rfl
    · obtain ⟨s3, e3⟩ := h
      rw [List.length_map, List.take_length] at e3
      have ep : H' p = some (.dK []) := s3 _ _ (s2 _ _ e1)
      refine ⟨ep, feedK D 0 0, rfl, (by show 3 ≤ 15; decide), ?_⟩
      rw [merge_feed]
      refine q p D cs _ np hD ⟨⟨0, 0, Nat.le_refl _, upd_same⟩, ?_, by omega⟩ fun b o e => ?_
      · rw [upd_ne (ne_of e3 ep (by intro z; cases z))]
        exact e3
      · rw [upd_ne (ne_of_none e np)]
        exact s3 _ _ (s2 _ _ (s1 _ _ e))
theorem ok__law_draw (T : Txt K mg B) : FnOk P w K mg base CX0 (k + 1) B.f__law_draw B.d__law_draw ["_law_feed_here", "_law_many"] (spF (Sx K B) 2 F__law_draw) := (okB__law_draw T).imp fun vs H Q E h => draw_imp h
abbrev s__law_pick : Stmt := topS 49
abbrev N__law_pick : List Str := ["_law_feed_here", "_law_some"]
theorem sc__law_pick : FnScope N__law_pick ["_law_feed_here", "_law_some"] (defScope s__law_pick) :=
  ⟨rfl, rfl, rfl, by decide +kernel, rfl, by decide +kernel, by decide +kernel⟩
theorem ok__law_pick (T : Txt K mg B) : FnOk P w K mg base CX0 (k + 2) B.f__law_pick B.d__law_pick ["_law_feed_here", "_law_some"] (spF (Sx K B) 2 F__law_pick) := by
  have nd := sc__law_pick.nd
  have G__law_draw : FnOk P w K mg base CX0 (k + 1) B.f__law_draw B.d__law_draw ["_law_feed_here", "_law_many"] (spF (Sx K B) 2 F__law_draw) := ok__law_draw (k := k + 0) T
  refine Fun.pu T.F__law_pick sc__law_pick (fun cdv A outer s H E hr => ?_)
  have hr65 := units65 hr
  exact (yone (yret (xidx rfl (hu_of hr) (sw (xn (pv 1))) (sw (xcall G__law_draw hr (by rfl) T.m__law_draw T.F__law_draw.kp T.b__law_draw (xcons (xn (pv 0)) (xcons (xcallB1 (cr_lenD rfl) (by rfl) T.z_len (by decide +kernel) (sw (xn (pv 1)))) xnil)))) (fun _ _ => rfl))))

abbrev s__law_names : Stmt := topS 50
abbrev N__law_names : List Str := ["_law_feed_here", "_law_many", "_law_letters", "_law_found", "_law_k", "_law_stem", "_law_at", "_law_first", "_law_step", "_law_tail"]
theorem sc__law_names : FnScope N__law_names ["_law_feed_here", "_law_many"] (defScope s__law_names) :=
  ⟨rfl, rfl, rfl, by decide +kernel, rfl, by decide +kernel, by decide +kernel⟩
theorem ok__law_names (T : Txt K mg B) : FnOk P w K mg base CX0 (k + 3) B.f__law_names B.d__law_names ["_law_feed_here", "_law_many"] (spF (Sx K B) 2 F__law_names) := by
  have nd := sc__law_names.nd
  have G__law_draw : FnOk P w K mg base CX0 (k + 2) B.f__law_draw B.d__law_draw ["_law_feed_here", "_law_many"] (spF (Sx K B) 2 F__law_draw) := ok__law_draw (k := k + 1) T
  have G__law_pick : FnOk P w K mg base CX0 (k + 2) B.f__law_pick B.d__law_pick ["_law_feed_here", "_law_some"] (spF (Sx K B) 2 F__law_pick) := ok__law_pick (k := k + 0) T
  refine Fun.pu T.F__law_names sc__law_names (fun cdv A outer s H E hr => ?_)
  have hr65 := units65 hr
  exact (ycons (yparT (is := [2, 3]) rfl rfl (pgs_cons (pg_name (i := 2) nd rfl (.inr rfl)) (pgs_cons (pg_name (i := 3) nd rfl (.inl rfl)) pgs_nil)) (ymfz (xstr [97, 98, 99, 100, 101, 102, 103, 104, 105, 106, 107, 108, 109, 110, 111, 112, 113, 114, 115, 116, 117, 118, 119, 120, 121, 122] (by decide +kernel)) (ymow (xlst xnil) ymnil)))
    (ycons (yset (i := 5) nd rfl (.inl rfl) (xbm1 (t := .str) PySem.F.plainAttrs_str PySem.F.slot_str_join PySem.F.type_str_join (mt_joinD rfl) (sw (xstr [] (by decide +kernel))) (sw (fs (xlc (own := [("_law_k", 4)]) rfl nd (isw (xr1 (by rfl) T.z_range (sw (xbin (op_addD rfl) (sw xint) (sw (xcall G__law_draw hr (by rfl) T.m__law_draw T.F__law_draw.kp T.b__law_draw (xcons (xn (pv 0)) (xcons xint xnil)))))))) (blkOk_by (own := [("_law_k", 4)]) (N := N__law_names) (sc := defScope s__law_names) (by decide +kernel)) (fun _ _ _ _ _ => (xgn (pg_name (i := 4) nd rfl (.inl rfl) (.inr rfl)))) (fun _ _ _ _ _ => xts0) (fun _ _ _ _ _ => (xcall G__law_pick hr (by rfl) T.m__law_pick T.F__law_pick.kp T.b__law_pick (xcons (xn (pv 0)) (xcons (xn (pv 2)) xnil)))))))))
    (ycons (ypar3 (i := 6) (j := 7) (l := 8) (by rfl) nd rfl rfl rfl (by decide) (by decide) (by decide) rfl rfl rfl (ymfz (xcall G__law_draw hr (by rfl) T.m__law_draw T.F__law_draw.kp T.b__law_draw (xcons (xn (pv 0)) (xcons (xcallB1 (cr_lenD rfl) (by rfl) T.z_len (by decide +kernel) (sw (xn (pv 5)))) xnil))) (ymfz (xcall G__law_draw hr (by rfl) T.m__law_draw T.F__law_draw.kp T.b__law_draw (xcons (xn (pv 0)) (xcons xint xnil))) (ymfz (xcall G__law_pick hr (by rfl) T.m__law_pick T.F__law_pick.kp T.b__law_pick (xcons (xn (pv 0)) (xcons (fs (xlst (xcons xint (xcons xint (xcons xint (xcons xint (xcons xint (xcons xint (xcons xint (xcons xint xnil)))))))))) xnil))) ymnil))) (by rfl))
    (ycons (yfor PassesOwn.never rfl (xr1 (by rfl) T.z_range (sw (xn (pv 1)))) (xgn (pg_name (i := 4) nd rfl (.inl rfl)))
      (ycons (yset (i := 9) nd rfl (.inl rfl) (xif (xtcmp op_gtDo (sw (xcall G__law_draw hr (by rfl) T.m__law_draw T.F__law_draw.kp T.b__law_draw (xcons (xn (pv 0)) (xcons xint xnil)))) (sw xint) (nomark _)) (xsl rfl (sw (xn (pv 5))) (xo1 (sw (xbin (op_addD rfl) (sw (xn (pv 6))) (sw xint)))) xo0) (xstr [] (by decide +kernel))))
    (yone (yapp (pv 3) (xbin (op_addD rfl) (sw (xbin (op_addD rfl) (sw (xsl rfl (sw (xn (pv 5))) xo0 (xo1 (sw (xn (pv 6)))))) (sw (xidx rfl (hu_of hr) (sw (xn (pv 2))) (sw (xbin op_modD (sw (xbin (op_addD rfl) (sw (xn (pv 7))) (sw (xbin op_mulD (sw (xn (pv 8))) (sw (xn (pv 4))))))) (sw xint))) (fun _ _ => rfl))))) (sw (xn (pv 9))))))))
    (yone (yretv (pv 3)))))))

abbrev s__law_signs : Stmt := topS 51
abbrev N__law_signs : List Str := ["_law_feed_here", "_law_many", "_law_letters", "_law_first", "_law_step", "_law_k"]
theorem sc__law_signs : FnScope N__law_signs ["_law_feed_here", "_law_many"] (defScope s__law_signs) :=
  ⟨rfl, rfl, rfl, by decide +kernel, rfl, by decide +kernel, by decide +kernel⟩
theorem ok__law_signs (T : Txt K mg B) : FnOk P w K mg base CX0 (k + 3) B.f__law_signs B.d__law_signs ["_law_feed_here", "_law_many"] (spF (Sx K B) 2 F__law_signs) := by
  have nd := sc__law_signs.nd
  have G__law_draw : FnOk P w K mg base CX0 (k + 2) B.f__law_draw B.d__law_draw ["_law_feed_here", "_law_many"] (spF (Sx K B) 2 F__law_draw) := ok__law_draw (k := k + 1) T
  have G__law_pick : FnOk P w K mg base CX0 (k + 2) B.f__law_pick B.d__law_pick ["_law_feed_here", "_law_some"] (spF (Sx K B) 2 F__law_pick) := ok__law_pick (k := k + 0) T
  refine Fun.pu T.F__law_signs sc__law_signs (fun cdv A outer s H E hr => ?_)
  have hr65 := units65 hr
  exact (ycons (yparT (is := [2, 3, 4]) rfl rfl (pgs_cons (pg_name (i := 2) nd rfl (.inr rfl)) (pgs_cons (pg_name (i := 3) nd rfl (.inr rfl)) (pgs_cons (pg_name (i := 4) nd rfl (.inr rfl)) pgs_nil))) (ymfz (xstr [97, 98, 99, 100, 101, 102, 103, 104, 105, 106, 107, 108, 109, 110, 111, 112, 113, 114, 115, 116, 117, 118, 119, 120, 121, 122] (by decide +kernel)) (ymfz (xcall G__law_draw hr (by rfl) T.m__law_draw T.F__law_draw.kp T.b__law_draw (xcons (xn (pv 0)) (xcons xint xnil))) (ymfz (xcall G__law_pick hr (by rfl) T.m__law_pick T.F__law_pick.kp T.b__law_pick (xcons (xn (pv 0)) (xcons (fs (xlst (xcons xint (xcons xint (xcons xint (xcons xint (xcons xint (xcons xint xnil)))))))) xnil))) ymnil))))
    (yone (yret (xbm1 (t := .str) PySem.F.plainAttrs_str PySem.F.slot_str_join PySem.F.type_str_join (mt_joinD rfl) (sw (xstr [] (by decide +kernel))) (sw (xcallB1 cr_sortedD (by rfl) T.z_sorted (by decide +kernel) (sw (fs (xlc (own := [("_law_k", 5)]) rfl nd (isw (xr1 (by rfl) T.z_range (sw (xn (pv 1))))) (blkOk_by (own := [("_law_k", 5)]) (N := N__law_signs) (sc := defScope s__law_signs) (by decide +kernel)) (fun _ _ _ _ _ => (xgn (pg_name (i := 5) nd rfl (.inl rfl) (.inr rfl)))) (fun _ _ _ _ _ => xts0) (fun _ _ _ _ _ => (xidx rfl (hu_of hr) (sw (xn (pv 2))) (sw (xbin op_modD (sw (xbin (op_addD rfl) (sw (xn (pv 3))) (sw (xbin op_mulD (sw (xn (pv 4))) (sw (xn (pv 5))))))) (sw xint))) (fun _ _ => rfl))))))))))))

abbrev s__law_table : Stmt := topS 52
abbrev N__law_table : List Str := ["_law_feed_here", "_law_signs_here", "_law_found", "_law_is_plain", "_law_k", "_law_left", "_law_row", "_law_turn"]
theorem sc__law_table : FnScope N__law_table ["_law_feed_here", "_law_signs_here"] (defScope s__law_table) :=
  ⟨rfl, rfl, rfl, by decide +kernel, rfl, by decide +kernel, by decide +kernel⟩
theorem ok__law_table (T : Txt K mg B) : FnOk P w K mg base CX0 (k + 3) B.f__law_table B.d__law_table ["_law_feed_here", "_law_signs_here"] (spF (Sx K B) 2 F__law_table) := by
  have nd := sc__law_table.nd
  have G__law_draw : FnOk P w K mg base CX0 (k + 2) B.f__law_draw B.d__law_draw ["_law_feed_here", "_law_many"] (spF (Sx K B) 2 F__law_draw) := ok__law_draw (k := k + 1) T
  have G__law_pick : FnOk P w K mg base CX0 (k + 2) B.f__law_pick B.d__law_pick ["_law_feed_here", "_law_some"] (spF (Sx K B) 2 F__law_pick) := ok__law_pick (k := k + 0) T
  refine Fun.pu T.F__law_table sc__law_table (fun cdv A outer s H E hr => ?_)
  have hr65 := units65 hr
  exact (ycons (ypar (i := 2) (j := 3) (by rfl) nd rfl rfl (by decide) rfl rfl (ymow (xlst xnil) (ymfz (xcmp (op_eqDo rfl hr.units) (sw (xcall G__law_draw hr (by rfl) T.m__law_draw T.F__law_draw.kp T.b__law_draw (xcons (xn (pv 0)) (xcons xint xnil)))) (sw xint) (nomark _)) ymnil)) (by rfl))
    (ycons (yfor PassesOwn.never rfl (xr1 (by rfl) T.z_range (sw (xcallB1 (cr_lenD rfl) (by rfl) T.z_len (by decide +kernel) (sw (xn (pv 1)))))) (xgn (pg_name (i := 4) nd rfl (.inl rfl)))
      (ycons (yif (xttr rfl (sw (xn (pv 3))))
      (ycons (ypar (i := 5) (j := 6) (by rfl) nd rfl rfl (by decide) rfl rfl (ymow (xcallT1F (cr_listD rfl rfl) (fun _ _ h => listD_no h) (by rfl) T.z_list (by decide +kernel) (sw (xn (pv 1)))) (ymfz (xstr [] (by decide +kernel)) ymnil)) (by rfl))
    (yone (yfor PassesOwn.never rfl (xr1 (by rfl) T.z_range (sw (xcallB1 (cr_lenD rfl) (by rfl) T.z_len (by decide +kernel) (sw (xn (pv 1)))))) (xgn (pg_name (i := 7) nd rfl (.inl rfl)))
      (yone (yaddpop (k := 6) (i := 5) nd rfl (.inl rfl) (op_addD rfl) (xn (pv 6)) (pv 5) (sw (xcall G__law_draw hr (by rfl) T.m__law_draw T.F__law_draw.kp T.b__law_draw (xcons (xn (pv 0)) (xcons (xcallB1 (cr_lenD rfl) (by rfl) T.z_len (by decide +kernel) (xv (pv 5))) xnil)))))))))
      (yone (yset (i := 6) nd rfl (.inl rfl) (xbm1 (t := .str) PySem.F.plainAttrs_str PySem.F.slot_str_join PySem.F.type_str_join (mt_joinD rfl) (sw (xstr [] (by decide +kernel))) (sw (fs (xlc (own := [("_law_turn", 7)]) rfl nd (isw (xr1 (by rfl) T.z_range (sw (xcallB1 (cr_lenD rfl) (by rfl) T.z_len (by decide +kernel) (sw (xn (pv 1))))))) (blkOk_by (own := [("_law_turn", 7)]) (N := N__law_table) (sc := defScope s__law_table) (by decide +kernel)) (fun _ _ _ _ _ => (xgn (pg_name (i := 7) nd rfl (.inl rfl) (.inr rfl)))) (fun _ _ _ _ _ => xts0) (fun _ _ _ _ _ => (xcall G__law_pick hr (by rfl) T.m__law_pick T.F__law_pick.kp T.b__law_pick (xcons (xn (pv 0)) (xcons (xn (pv 1)) xnil)))))))))))
    (yone (yapp (pv 2) (xn (pv 6))))))
    (yone (yret (xcallT1 (cr_tupleD rfl) (by rfl) T.z_tuple (by decide +kernel) (xv (pv 2)))))))

abbrev s__law_raw : Stmt := topS 53
abbrev N__law_raw : List Str := ["_law_feed_here", "_law_sizes", "_law_signs_here", "_law_names_here", "_law_bands", "_law_places", "_law_stamps", "_law_at", "_law_name", "_law_wide", "_law_far_here", "_law_goes", "_law_k", "_law_bar", "_law_upper", "_law_turn"]
theorem sc__law_raw : FnScope N__law_raw ["_law_feed_here", "_law_sizes"] (defScope s__law_raw) :=
  ⟨rfl, rfl, rfl, by decide +kernel, rfl, by decide +kernel, by decide +kernel⟩
theorem ok__law_raw (T : Txt K mg B) : FnOk P w K mg base CX0 (k + 4) B.f__law_raw B.d__law_raw ["_law_feed_here", "_law_sizes"] (spF (Sx K B) 2 F__law_raw) := by
  have nd := sc__law_raw.nd
  have G__law_draw : FnOk P w K mg base CX0 (k + 3) B.f__law_draw B.d__law_draw ["_law_feed_here", "_law_many"] (spF (Sx K B) 2 F__law_draw) := ok__law_draw (k := k + 2) T
  have G__law_names : FnOk P w K mg base CX0 (k + 3) B.f__law_names B.d__law_names ["_law_feed_here", "_law_many"] (spF (Sx K B) 2 F__law_names) := ok__law_names (k := k + 0) T
  have G__law_pick : FnOk P w K mg base CX0 (k + 3) B.f__law_pick B.d__law_pick ["_law_feed_here", "_law_some"] (spF (Sx K B) 2 F__law_pick) := ok__law_pick (k := k + 1) T
  have G__law_signs : FnOk P w K mg base CX0 (k + 3) B.f__law_signs B.d__law_signs ["_law_feed_here", "_law_many"] (spF (Sx K B) 2 F__law_signs) := ok__law_signs (k := k + 0) T
  have G__law_table : FnOk P w K mg base CX0 (k + 3) B.f__law_table B.d__law_table ["_law_feed_here", "_law_signs_here"] (spF (Sx K B) 2 F__law_table) := ok__law_table (k := k + 0) T
  refine Fun.pu T.F__law_raw sc__law_raw (fun cdv A outer s H E hr => ?_)
  have hr65 := units65 hr
  exact (ycons (ypar (i := 2) (j := 3) (by rfl) nd rfl rfl (by decide) rfl rfl (ymfz (xcall G__law_signs hr (by rfl) T.m__law_signs T.F__law_signs.kp T.b__law_signs (xcons (xn (pv 0)) (xcons (xbin (op_addD rfl) (sw xint) (sw (xcall G__law_draw hr (by rfl) T.m__law_draw T.F__law_draw.kp T.b__law_draw (xcons (xn (pv 0)) (xcons (xbin op_subD (sw (xidx rfl (hu_of hr) (sw (xn (pv 1))) (sw xint) (fun _ _ => rfl))) (sw xint)) xnil))))) xnil))) (ymfz (xcall G__law_names hr (by rfl) T.m__law_names T.F__law_names.kp T.b__law_names (xcons (xn (pv 0)) (xcons (xbin (op_addD rfl) (sw xint) (sw (xcall G__law_draw hr (by rfl) T.m__law_draw T.F__law_draw.kp T.b__law_draw (xcons (xn (pv 0)) (xcons (xidx rfl (hu_of hr) (sw (xn (pv 1))) (sw xint) (fun _ _ => rfl)) xnil))))) xnil))) ymnil)) (by rfl))
    (ycons (ypar3 (i := 4) (j := 5) (l := 6) (by rfl) nd rfl rfl rfl (by decide) (by decide) (by decide) rfl rfl rfl (ymow (xlst xnil) (ymfz (fs (xlst xnil)) (ymow (xlst xnil) ymnil))) (by rfl))
    (ycons (yfor PassesOwn.never rfl (xenum rfl (by rfl) T.z_enumerate (xn (pv 3))) (xgtup (k := 2) rfl rfl (xgcons (xgn (pg_name (i := 7) nd rfl (.inl rfl))) (xgcons (xgn (pg_name (i := 8) nd rfl (.inr rfl))) xgnil)))
      (ycons (yset (i := 9) nd rfl (.inl rfl) (xcallB2 (cr_minD rfl) (by rfl) T.z_min (by decide +kernel) (sw (xbin (op_addD rfl) (sw xint) (sw (xcall G__law_draw hr (by rfl) T.m__law_draw T.F__law_draw.kp T.b__law_draw (xcons (xn (pv 0)) (xcons (xidx rfl (hu_of hr) (sw (xn (pv 1))) (sw xint) (fun _ _ => rfl)) xnil)))))) (sw (xbin op_subD (sw (xbin op_subD (sw (xbin (op_addD rfl) (sw xint) (sw (xn (pv 7))))) (sw (xcallB1 (cr_lenD rfl) (by rfl) T.z_len (by decide +kernel) (sw (xn (pv 5))))))) (sw (xcallB1 (cr_lenD rfl) (by rfl) T.z_len (by decide +kernel) (sw (xn (pv 3)))))))))
    (ycons (yset (i := 10) nd rfl (.inl rfl) (xbin op_subD (sw (xbin op_powD (sw xint) (sw xint))) (sw (xcall G__law_draw hr (by rfl) T.m__law_draw T.F__law_draw.kp T.b__law_draw (xcons (xn (pv 0)) (xcons xint xnil))))))
    (ycons (yset (i := 11) nd rfl (.inl rfl) (xcall G__law_pick hr (by rfl) T.m__law_pick T.F__law_pick.kp T.b__law_pick (xcons (xn (pv 0)) (xcons (fs (xlst (xcons xint (xcons xint (xcons xint (xcons (xun un_negD (sw xint)) (xcons xint (xcons (xn (pv 9)) (xcons (xbin (op_addD rfl) (sw (xn (pv 9))) (sw xint)) (xcons (xun un_negD (sw xint)) (xcons (xn (pv 10)) (xcons (xbin op_subD (sw xint) (sw (xn (pv 10)))) xnil)))))))))))) xnil))))
    (ycons (yapp (pv 4) (xtup (xcons (xn (pv 8)) (xcons (xn (pv 9)) (xcons (xn (pv 11)) xnil)))))
    (yone (yset (i := 5) nd rfl (.inl rfl) (xbin (op_addD rfl) (sw (xn (pv 5))) (sw (fs (xlc (own := [("_law_k", 12)]) rfl nd (isw (xr1 (by rfl) T.z_range (sw (xn (pv 9))))) (blkOk_by (own := [("_law_k", 12)]) (N := N__law_raw) (sc := defScope s__law_raw) (by decide +kernel)) (fun _ _ _ _ _ => (xgn (pg_name (i := 12) nd rfl (.inl rfl) (.inr rfl)))) (fun _ _ _ _ _ => xts0) (fun _ _ _ _ _ => (xtup (xcons (xn (pv 8)) (xcons (xn (pv 12)) xnil)))))))))))))))
    (ycons (yfor PassesOwn.never rfl (xr1 (by rfl) T.z_range (sw (xcall G__law_draw hr (by rfl) T.m__law_draw T.F__law_draw.kp T.b__law_draw (xcons (xn (pv 0)) (xcons (xbin (op_addD rfl) (sw (xidx rfl (hu_of hr) (sw (xn (pv 1))) (sw xint) (fun _ _ => rfl))) (sw xint)) xnil))))) (xgn (pg_name (i := 12) nd rfl (.inl rfl)))
      (ycons (yset (i := 13) nd rfl (.inl rfl) (xbm1 (t := .str) PySem.F.plainAttrs_str PySem.F.slot_str_join PySem.F.type_str_join (mt_joinD rfl) (sw (xstr [] (by decide +kernel))) (sw (fs (xlc (own := [("_law_turn", 15)]) rfl nd (isw (xr1 (by rfl) T.z_range (sw (xbin (op_addD rfl) (sw xint) (sw (xcall G__law_draw hr (by rfl) T.m__law_draw T.F__law_draw.kp T.b__law_draw (xcons (xn (pv 0)) (xcons (xidx rfl (hu_of hr) (sw (xn (pv 1))) (sw xint) (fun _ _ => rfl)) xnil)))))))) (blkOk_by (own := [("_law_turn", 15)]) (N := N__law_raw) (sc := defScope s__law_raw) (by decide +kernel)) (fun _ _ _ _ _ => (xgn (pg_name (i := 15) nd rfl (.inl rfl) (.inr rfl)))) (fun _ _ _ _ _ => xts0) (fun _ _ _ _ _ => (xcall G__law_pick hr (by rfl) T.m__law_pick T.F__law_pick.kp T.b__law_pick (xcons (xn (pv 0)) (xcons (xstr [120, 120, 45] (by decide +kernel)) xnil)))))))))
    (ycons (yset (i := 14) nd rfl (.inl rfl) (xcall G__law_pick hr (by rfl) T.m__law_pick T.F__law_pick.kp T.b__law_pick (xcons (xn (pv 0)) (xcons (xn (pv 5)) xnil))))
    (yone (yapp (pv 6) (xtup (xcons (xn (pv 14)) (xcons (xcall G__law_pick hr (by rfl) T.m__law_pick T.F__law_pick.kp T.b__law_pick (xcons (xn (pv 0)) (xcons (xn (pv 5)) xnil))) (xcons (xcall G__law_table hr (by rfl) T.m__law_table T.F__law_table.kp T.b__law_table (xcons (xn (pv 0)) (xcons (xn (pv 2)) xnil))) (xcons (xn (pv 13)) xnil))))))))))
    (yfrz (i := 6) (yfrz (i := 4) (yone (yret (fs (xdict (ks := [.inr [115, 105, 103, 110, 115], .inr [98, 97, 110, 100, 115], .inr [112, 114, 101, 115, 115, 101, 115], .inr [112, 108, 97, 99, 101, 115]]) (fs := [(xN 2), (xN 4), (xN 6), (xN 5)]) (show PPs _ _ _ _ _ from (pps_cons pe_str (xn (pv 2)) (pps_cons pe_str (xn (pv 4)) (pps_cons pe_str (xn (pv 6)) (pps_cons pe_str (xn (pv 5)) pps_nil))))) (by decide) rfl (by decide) (by rfl) (by rfl) (fun z => by cases z) (by decide)))))))))))

abbrev s__law_made : Stmt := topS 54
abbrev N__law_made : List Str := ["_law_raw_here", "_law_made_here", "_law_name", "_law_wide", "_law_goes", "_law_up", "_law_low", "_law_rule", "_law_bar"]
theorem sc__law_made : FnScope N__law_made ["_law_raw_here"] (defScope s__law_made) :=
  ⟨rfl, rfl, rfl, by decide +kernel, rfl, by decide +kernel, by decide +kernel⟩
theorem ok__law_made (T : Txt K mg B) : FnOk P w K mg base CX0 (k + 7) B.f__law_made B.d__law_made ["_law_raw_here"] (spF (Sx K B) 1 F__law_made) := by
  have nd := sc__law_made.nd
  have G_Band___init__ : FnOk P w K mg base CX0 (k + 5) B.f_Band___init__ B.d_Band___init__ ["self", "name", "long", "pace"] (spI (Sx K B) 0 3 F_Band___init__) := ok_Band___init__ (k := k + 2) T
  have G_Press___init__ : FnOk P w K mg base CX0 (k + 5) B.f_Press___init__ B.d_Press___init__ ["self", "above", "below", "table", "rhythm"] (spI (Sx K B) 1 4 F_Press___init__) := ok_Press___init__ (k := k + 0) T
  have G_Work___init__ : FnOk P w K mg base CX0 (k + 5) B.f_Work___init__ B.d_Work___init__ ["self", "signs", "bands", "presses"] (spI (Sx K B) 2 3 F_Work___init__) := ok_Work___init__ (k := k + 1) T
  refine Fun.pu T.F__law_made sc__law_made (fun cdv A outer s H E hr => ?_)
  have hr65 := units65 hr
  exact (ycons (ysetlc (i := 1) (own := [("_law_name", 2), ("_law_wide", 3), ("_law_goes", 4)]) rfl nd rfl rfl (sw_true rfl rfl rfl (by decide +kernel)) (isw (xit rfl (xidx rfl (hu_of hr) (sw (xn (pv 0))) (sw (xstr [98, 97, 110, 100, 115] (by decide +kernel))) (fun _ _ => rfl)))) (blkOk_by (own := [("_law_name", 2), ("_law_wide", 3), ("_law_goes", 4)]) (N := N__law_made) (sc := defScope s__law_made) (by decide +kernel)) (fun _ _ _ _ _ => (xgtup (k := 3) rfl rfl (xgcons (xgn (pg_name (i := 2) nd rfl (.inl rfl) (.inr rfl))) (xgcons (xgn (pg_name (i := 3) nd rfl (.inl rfl) (.inr rfl))) (xgcons (xgn (pg_name (i := 4) nd rfl (.inl rfl) (.inr rfl))) xgnil))))) (fun _ _ _ _ _ => xts0) (fun _ _ _ _ _ => (xmakek (c := 0) (m := 2) (ks := ["pace"]) rfl T.mk_Band G_Band___init__ hr (by rfl) T.m_Band T.kb_Band___init__ (xcons (xn (pv 2)) (xcons (xn (pv 3)) xnil)) (xkcons (xn (pv 4)) xknil))))
    (yone (yret (xmake (c := 2) rfl T.mk_Work G_Work___init__ hr (by rfl) T.m_Work T.b_Work___init__ (xcons (xidx rfl (hu_of hr) (sw (xn (pv 0))) (sw (xstr [115, 105, 103, 110, 115] (by decide +kernel))) (fun _ _ => rfl)) (xcons (xn (pv 1)) (xcons (fs (xlc (own := [("_law_up", 5), ("_law_low", 6), ("_law_rule", 7), ("_law_bar", 8)]) rfl nd (isw (xit rfl (xidx rfl (hu_of hr) (sw (xn (pv 0))) (sw (xstr [112, 114, 101, 115, 115, 101, 115] (by decide +kernel))) (fun _ _ => rfl)))) (blkOk_by (own := [("_law_up", 5), ("_law_low", 6), ("_law_rule", 7), ("_law_bar", 8)]) (N := N__law_made) (sc := defScope s__law_made) (by decide +kernel)) (fun _ _ _ _ _ => (xgtup (k := 4) rfl rfl (xgcons (xgn (pg_name (i := 5) nd rfl (.inl rfl) (.inr rfl))) (xgcons (xgn (pg_name (i := 6) nd rfl (.inl rfl) (.inr rfl))) (xgcons (xgn (pg_name (i := 7) nd rfl (.inl rfl) (.inr rfl))) (xgcons (xgn (pg_name (i := 8) nd rfl (.inl rfl) (.inr rfl))) xgnil)))))) (fun _ _ _ _ _ => xts0) (fun _ _ _ _ _ => (xmakek (c := 1) (m := 3) (ks := ["rhythm"]) rfl T.mk_Press G_Press___init__ hr (by rfl) T.m_Press T.kb_Press___init__ (xcons (xn (pv 5)) (xcons (xn (pv 6)) (xcons (xn (pv 7)) xnil))) (xkcons (xn (pv 8)) xknil))))) xnil)))))))

abbrev s__law_far : Stmt := topS 55
abbrev N__law_far : List Str := ["_law_feed_here", "_law_far_here"]
theorem sc__law_far : FnScope N__law_far ["_law_feed_here"] (defScope s__law_far) :=
  ⟨rfl, rfl, rfl, by decide +kernel, rfl, by decide +kernel, by decide +kernel⟩
def F__law_far : FX := fnF 2 (sSeq (sSet 1 (xCall F__law_pick (xCons (xN 0) (xCons (xLst (xCons (xC (.int 10)) (xCons (xC (.int 100)) (xCons (xBin powD (xC (.int 10)) (xC (.int 9))) (xCons (xBin powD (xC (.int 10)) (xC (.int 30))) (xCons (xBin powD (xC (.int 10)) (xC (.int 60))) xNil)))))) xNil)))) (sRet (xCall F__law_pick (xCons (xN 0) (xCons (xLst (xCons (xCall F__law_draw (xCons (xN 0) (xCons (xC (.int 20)) xNil))) (xCons (xBin subD (xN 1) (xCall F__law_draw (xCons (xN 0) (xCons (xC (.int 3)) xNil)))) (xCons (xCall F__law_draw (xCons (xN 0) (xCons (xN 1) xNil))) xNil)))) xNil)))))
theorem ok__law_far (T : Txt K mg B) : FnOk P w K mg base CX0 (k + 3) B.f__law_far B.d__law_far ["_law_feed_here"] (spF (Sx K B) 1 F__law_far) := by
  have nd := sc__law_far.nd
  have G__law_draw : FnOk P w K mg base CX0 (k + 2) B.f__law_draw B.d__law_draw ["_law_feed_here", "_law_many"] (spF (Sx K B) 2 F__law_draw) := ok__law_draw (k := k + 1) T
  have G__law_pick : FnOk P w K mg base CX0 (k + 2) B.f__law_pick B.d__law_pick ["_law_feed_here", "_law_some"] (spF (Sx K B) 2 F__law_pick) := ok__law_pick (k := k + 0) T
  refine Fun.pu T.F__law_far sc__law_far (fun cdv A outer s H E hr => ?_)
  have hr65 := units65 hr
  exact (ycons (yset (i := 1) nd rfl (.inl rfl) (xcall G__law_pick hr (by rfl) T.m__law_pick T.F__law_pick.kp T.b__law_pick (xcons (xn (pv 0)) (xcons (fs (xlst (xcons xint (xcons xint (xcons (xbin op_powD (sw xint) (sw xint)) (xcons (xbin op_powD (sw xint) (sw xint)) (xcons (xbin op_powD (sw xint) (sw xint)) xnil))))))) xnil))))
    (yone (yret (xcall G__law_pick hr (by rfl) T.m__law_pick T.F__law_pick.kp T.b__law_pick (xcons (xn (pv 0)) (xcons (fs (xlst (xcons (xcall G__law_draw hr (by rfl) T.m__law_draw T.F__law_draw.kp T.b__law_draw (xcons (xn (pv 0)) (xcons xint xnil))) (xcons (xbin op_subD (sw (xn (pv 1))) (sw (xcall G__law_draw hr (by rfl) T.m__law_draw T.F__law_draw.kp T.b__law_draw (xcons (xn (pv 0)) (xcons xint xnil))))) (xcons (xcall G__law_draw hr (by rfl) T.m__law_draw T.F__law_draw.kp T.b__law_draw (xcons (xn (pv 0)) (xcons (xn (pv 1)) xnil))) xnil))))) xnil))))))

abbrev s__law_beats_with : Stmt := topS 56
abbrev N__law_beats_with : List Str := ["_law_bar", "_law_last", "_law_spots", "_law_k"]
theorem sc__law_beats_with : FnScope N__law_beats_with ["_law_bar", "_law_last"] (defScope s__law_beats_with) :=
  ⟨rfl, rfl, rfl, by decide +kernel, rfl, by decide +kernel, by decide +kernel⟩
def F__law_beats_with : FX := fnF 4 (sSeq (sSet 2 (xLc [3] (xR1 (xUn lenD (xN 0))) (gN 3) (xTb (xBin eqDo (xBin idxD (xN 0) (xN 3)) (xC (.str [120])))) (xN 3))) (sRet (xBin addD (xBin mulD (xBin fdivD (xN 1) (xUn lenD (xN 0))) (xUn lenD (xN 2))) (xUn lenD (xLc [3] (xIt (xN 2)) (gN 3) (xTb (xBin ltDo (xN 3) (xBin modD (xN 1) (xUn lenD (xN 0))))) (xN 3))))))
theorem ok__law_beats_with (T : Txt K mg B) : FnOk P w K mg base CX0 (k + 1) B.f__law_beats_with B.d__law_beats_with ["_law_bar", "_law_last"] (spF (Sx K B) 2 F__law_beats_with) := by
  have nd := sc__law_beats_with.nd
  refine Fun.pu T.F__law_beats_with sc__law_beats_with (fun cdv A outer s H E hr => ?_)
  have hr65 := units65 hr
  exact (ycons (ysetlc (i := 2) (own := [("_law_k", 3)]) rfl nd rfl rfl (sw_true rfl rfl rfl (by decide +kernel)) (isw (xr1 (by rfl) T.z_range (sw (xcallB1 (cr_lenD rfl) (by rfl) T.z_len (by decide +kernel) (sw (xn (pv 0))))))) (blkOk_by (own := [("_law_k", 3)]) (N := N__law_beats_with) (sc := defScope s__law_beats_with) (by decide +kernel)) (fun _ _ _ _ _ => (xgn (pg_name (i := 3) nd rfl (.inl rfl) (.inr rfl)))) (fun _ _ _ _ _ => (xts1 (xtcmp (op_eqDo rfl hr.units) (sw (xidx rfl (hu_of hr) (sw (xn (pv 0))) (sw (xn (pv 3))) (fun _ _ => rfl))) (sw (xstr [120] (by decide +kernel))) (nomark _)))) (fun _ _ _ _ _ => (xn (pv 3))))
    (yone (yret (xbin (op_addD rfl) (sw (xbin op_mulD (sw (xbin op_fdivD (sw (xn (pv 1))) (sw (xcallB1 (cr_lenD rfl) (by rfl) T.z_len (by decide +kernel) (sw (xn (pv 0))))))) (sw (xcallB1 (cr_lenD rfl) (by rfl) T.z_len (by decide +kernel) (sw (xn (pv 2))))))) (sw (xcallB1 (cr_lenD rfl) (by rfl) T.z_len (by decide +kernel) (sw (fs (xlc (own := [("_law_k", 3)]) rfl nd (isw (xit rfl (xn (pv 2)))) (blkOk_by (own := [("_law_k", 3)]) (N := N__law_beats_with) (sc := defScope s__law_beats_with) (by decide +kernel)) (fun _ _ _ _ _ => (xgn (pg_name (i := 3) nd rfl (.inl rfl) (.inr rfl)))) (fun _ _ _ _ _ => (xts1 (xtcmp op_ltDo (sw (xn (pv 3))) (sw (xbin op_modD (sw (xn (pv 1))) (sw (xcallB1 (cr_lenD rfl) (by rfl) T.z_len (by decide +kernel) (sw (xn (pv 0))))))) (nomark _)))) (fun _ _ _ _ _ => (xn (pv 3))))))))))))

end
end K05
set_option Elab.async false
set_option linter.all false
set_option maxRecDepth 100000
set_option maxHeartbeats 4000000
namespace K05
open PySem PySem.Spec PyProof.Rows L2 Fd Tx Pu Pg
section
variable {P : Program} {w : World} {K : PySem.W.Frag} {mg : Str → Option Value} {base : Heap} {B : Fs} {k : Nat}
abbrev s_next_pass : Stmt := topS 45
abbrev N_next_pass : List Str := ["work", "press", "side", "place", "behind", "many", "beats", "begin", "later", "beat"]
theorem sc_next_pass : FnScope N_next_pass ["work", "press", "side", "place", "behind"] (defScope s_next_pass) :=
  ⟨rfl, rfl, rfl, by decide +kernel, rfl, by decide +kernel, by decide +kernel⟩
theorem ok_next_pass (T : Txt K mg B) : FnOk P w K mg base CX0 (k + 8) B.f_next_pass B.d_next_pass ["work", "press", "side", "place", "behind"] (spF (Sx K B) 5 F_next_pass) := by
  have nd := sc_next_pass.nd
  have G_passes : FnOk P w K mg base CX0 (k + 7) B.f_passes B.d_passes ["work", "press", "side", "place"] (spF (Sx K B) 4 F_passes) := ok_passes (k := k + 0) T
  refine FunD.pu T.F_next_pass sc_next_pass (fun cdv A outer s H E hr => ?_)
  have hr65 := units65 hr
  exact (ycons (yasg (xcall G_passes hr (by rfl) T.m_passes T.F_passes.kp T.b_passes (xcons (xn (pv 0)) (xcons (xn (pv 1)) (xcons (xn (pv 2)) (xcons (xn (pv 3)) xnil))))) (xgtup (k := 2) rfl rfl (xgcons (xgn (pg_name (i := 5) nd rfl (.inr rfl))) (xgcons (xgn (pg_name (i := 6) nd rfl (.inl rfl))) xgnil))))
    (ycons (yset (i := 7) nd rfl (.inr rfl) (xbin op_mulD (sw (xbin op_fdivD (sw (xn (pv 4))) (sw (xn (pv 5))))) (sw (xn (pv 5)))))
    (ycons (ysetlc (i := 8) (own := [("beat", 9)]) rfl nd rfl rfl (sw_true rfl rfl rfl (by decide +kernel)) (isw (xit rfl (xbin (op_addD rfl) (sw (xn (pv 6))) (sw (fs (xlc (own := [("beat", 9)]) rfl nd (isw (xit rfl (xn (pv 6)))) (blkOk_by (own := [("beat", 9)]) (N := N_next_pass) (sc := defScope s_next_pass) (by decide +kernel)) (fun _ _ _ _ _ => (xgn (pg_name (i := 9) nd rfl (.inl rfl) (.inr rfl)))) (fun _ _ _ _ _ => xts0) (fun _ _ _ _ _ => (xbin (op_addD rfl) (sw (xn (pv 5))) (sw (xn (pv 9))))))))))) (blkOk_by (own := [("beat", 9)]) (N := N_next_pass) (sc := defScope s_next_pass) (by decide +kernel)) (fun _ _ _ _ _ => (xgn (pg_name (i := 9) nd rfl (.inl rfl) (.inr rfl)))) (fun _ _ _ _ _ => (xts1 (xtcmp op_gtDo (sw (xbin (op_addD rfl) (sw (xn (pv 7))) (sw (xn (pv 9))))) (sw (xn (pv 4))) (nomark _)))) (fun _ _ _ _ _ => (xbin (op_addD rfl) (sw (xn (pv 7))) (sw (xn (pv 9))))))
    (yone (yret (xmind rfl rfl hr.units (by rfl) T.z_min (by decide +kernel) (sw (xn (pv 8))) xnon))))))

abbrev s__law_adds_up : Stmt := topS 57
abbrev N__law_adds_up : List Str := ["_law_feed_here", "_law_raw_here", "_law_work", "_law_number", "_law_side", "_law_bar", "_law_spot", "_law_inner", "_law_turn", "_law_last", "_law_found", "_law_mine", "_law_at", "_law_after", "_law_step", "_law_counts", "_law_place", "_law_k", "_law_beat", "_law_one"]
theorem sc__law_adds_up : FnScope N__law_adds_up ["_law_feed_here", "_law_raw_here", "_law_work", "_law_number", "_law_side"] (defScope s__law_adds_up) :=
  ⟨rfl, rfl, rfl, by decide +kernel, rfl, by decide +kernel, by decide +kernel⟩
def F__law_adds_up : FX := fnF 20 (sSeq (sPar [5, 6] (mFz (xBin idxD (xBin idxD (xBin idxD (xN 1) (xC (.str [112, 114, 101, 115, 115, 101, 115]))) (xN 3)) (xC (.int 3))) (mFz (xBin idxD (xBin idxD (xBin idxD (xN 1) (xC (.str [112, 114, 101, 115, 115, 101, 115]))) (xN 3)) (xBM .list lidxD (xLst (xCons (xC (.str [97, 98, 111, 118, 101])) (xCons (xC (.str [98, 101, 108, 111, 119])) xNil))) (xN 4))) mNil))) (sSeq (sSet 7 (xLc [16] (xIt (xBin idxD (xN 1) (xC (.str [112, 108, 97, 99, 101, 115])))) (gN 16) (xTb (xBin eqDo (xBin idxD (xN 16) (xC (.int 0))) (xBin idxD (xN 6) (xC (.int 0))))) (xN 16))) (sSeq (sFor (xR1 (xC (.int 3))) (gN 8) (sSeq (sSet 9 (xCall F__law_far (xCons (xN 0) xNil))) (sSeq (sSet 10 (xLc [16] (xIt (xBin idxD (xN 1) (xC (.str [112, 108, 97, 99, 101, 115])))) (gN 16) xYes (xCallK F_how_many_passes (xCons (xN 2) (xCons (xN 3) (xCons (xN 4) (xCons (xN 16) xNil)))) (xCons (xN 9) xNil)))) (sSeq (sSet 11 (xLc [17] (xR1 (xUn lenD (xN 10))) (gN 17) (xTb (xBin eqDo (xBin idxD (xBin idxD (xBin idxD (xN 1) (xC (.str [112, 108, 97, 99, 101, 115]))) (xN 17)) (xC (.int 0))) (xBin idxD (xN 6) (xC (.int 0))))) (xBin idxD (xN 10) (xN 17)))) (sIf (xOr (xTb (xBin neDo (xUn sumD (xN 11)) (xCall F__law_beats_with (xCons (xN 5) (xCons (xN 9) xNil))))) (xTb (xBin neDo (xUn sumD (xN 10)) (xUn sumD (xN 11))))) (sRet (xC (.bl false))) sNil))))) (sSeq (sSet 12 (xBin minD (xBin subD (xBin powD (xC (.int 10)) (xC (.int 60))) (xC (.int 100))) (xCall F__law_pick (xCons (xN 0) (xCons (xLst (xCons (xC (.int 0)) (xCons (xCall F__law_draw (xCons (xN 0) (xCons (xC (.int 30)) xNil))) (xCons (xCall F__law_far (xCons (xN 0) xNil)) xNil)))) xNil))))) (sSeq (sFor (xR1 (xC (.int 4))) (gN 8) (sSeq (sSet 13 (xLc [16] (xIt (xN 7)) (gN 16) xYes (xTup (xCons (xCallK F_next_pass (xCons (xN 2) (xCons (xN 3) (xCons (xN 4) (xCons (xN 16) xNil)))) (xCons (xN 12) xNil)) (xCons (xN 16) xNil))))) (sSeq (sSet 13 (xUn sortD (xLc [19] (xIt (xN 13)) (gN 19) (xTb (xBin isNotDo (xBin idxD (xN 19) (xC (.int 0))) (xC .non))) (xN 19)))) (sSeq (sSet 14 (xBin addD (xN 12) (xC (.int 1)))) (sSeq (sWhile (xAnd (xTb (xBin inDo (xC (.str [120])) (xN 5))) (xTb (xBin neDo (xBin idxD (xN 5) (xBin modD (xBin subD (xN 14) (xC (.int 1))) (xUn lenD (xN 5)))) (xC (.str [120]))))) (sSet 14 (xBin addD (xN 14) (xC (.int 1))))) (sSeq (sIf (xTb (xBin ninDo (xC (.str [120])) (xN 5))) (sRet (xBin eqDo (xN 13) (xLst xNil))) sNil) (sSeq (sIf (xOr (xTb (xBin eqDo (xN 13) (xLst xNil))) (xOr (xTb (xBin neDo (xBin idxD (xBin idxD (xN 13) (xC (.int 0))) (xC (.int 0))) (xN 14))) (xTb (xBin neDo (xLc [19] (xIt (xSl (xN 13) (xO1 (xC (.int 1))) xO0)) (gN 19) (xTb (xBin eqDo (xBin idxD (xN 19) (xC (.int 0))) (xN 14))) (xN 19)) (xLst xNil))))) (sRet (xC (.bl false))) sNil) (sSeq (sIf (xOr (xTb (xBin neDo (xCall F_where (xCons (xN 2) (xCons (xBin idxD (xBin idxD (xN 13) (xC (.int 0))) (xC (.int 1))) (xCons (xN 14) xNil)))) (xN 6))) (xTb (xBin neDo (xCall F_where (xCons (xN 2) (xCons (xN 6) (xCons (xBin subD (xC (.int 0)) (xN 14)) xNil)))) (xBin idxD (xBin idxD (xN 13) (xC (.int 0))) (xC (.int 1)))))) (sRet (xC (.bl false))) sNil) (sSeq (sSet 15 (xLc [18] (xIt (xTup (xCons (xN 12) (xCons (xBin subD (xN 14) (xC (.int 1))) (xCons (xN 14) xNil))))) (gN 18) xYes (xCallK F_how_many_passes (xCons (xN 2) (xCons (xN 3) (xCons (xN 4) (xCons (xBin idxD (xBin idxD (xN 13) (xC (.int 0))) (xC (.int 1))) xNil)))) (xCons (xN 18) xNil)))) (sSeq (sIf (xTb (xBin neDo (xN 15) (xLst (xCons (xBin idxD (xN 15) (xC (.int 0))) (xCons (xBin idxD (xN 15) (xC (.int 0))) (xCons (xBin addD (xBin idxD (xN 15) (xC (.int 0))) (xC (.int 1))) xNil)))))) (sRet (xC (.bl false))) sNil) (sSet 12 (xN 14)))))))))))) (sRet (xC (.bl true))))))))
theorem ok__law_adds_up (T : Txt K mg B) : FnOk P w K mg base CX0 (k + 9) B.f__law_adds_up B.d__law_adds_up ["_law_feed_here", "_law_raw_here", "_law_work", "_law_number", "_law_side"] (spF (Sx K B) 5 F__law_adds_up) := by
  have nd := sc__law_adds_up.nd
  have G__law_beats_with : FnOk P w K mg base CX0 (k + 8) B.f__law_beats_with B.d__law_beats_with ["_law_bar", "_law_last"] (spF (Sx K B) 2 F__law_beats_with) := ok__law_beats_with (k := k + 7) T
  have G__law_draw : FnOk P w K mg base CX0 (k + 8) B.f__law_draw B.d__law_draw ["_law_feed_here", "_law_many"] (spF (Sx K B) 2 F__law_draw) := ok__law_draw (k := k + 7) T
  have G__law_far : FnOk P w K mg base CX0 (k + 8) B.f__law_far B.d__law_far ["_law_feed_here"] (spF (Sx K B) 1 F__law_far) := ok__law_far (k := k + 5) T
  have G__law_pick : FnOk P w K mg base CX0 (k + 8) B.f__law_pick B.d__law_pick ["_law_feed_here", "_law_some"] (spF (Sx K B) 2 F__law_pick) := ok__law_pick (k := k + 6) T
  have G_how_many_passes : FnOk P w K mg base CX0 (k + 8) B.f_how_many_passes B.d_how_many_passes ["work", "press", "side", "place", "upto"] (spF (Sx K B) 5 F_how_many_passes) := ok_how_many_passes (k := k + 0) T
  have G_next_pass : FnOk P w K mg base CX0 (k + 8) B.f_next_pass B.d_next_pass ["work", "press", "side", "place", "behind"] (spF (Sx K B) 5 F_next_pass) := ok_next_pass (k := k + 0) T
  have G_where : FnOk P w K mg base CX0 (k + 8) B.f_where B.d_where ["work", "place", "beats"] (spF (Sx K B) 3 F_where) := ok_where (k := k + 2) T
  refine Fun.pu T.F__law_adds_up sc__law_adds_up (fun cdv A outer s H E hr => ?_)
  have hr65 := units65 hr
  exact (ycons (yparT (is := [5, 6]) rfl rfl (pgs_cons (pg_name (i := 5) nd rfl (.inl rfl)) (pgs_cons (pg_name (i := 6) nd rfl (.inr rfl)) pgs_nil)) (ymfz (xidx rfl (hu_of hr) (sw (xidx rfl (hu_of hr) (sw (xidx rfl (hu_of hr) (sw (xn (pv 1))) (sw (xstr [112, 114, 101, 115, 115, 101, 115] (by decide +kernel))) (fun _ _ => rfl))) (sw (xn (pv 3))) (fun _ _ => rfl))) (sw xint) (fun _ _ => rfl)) (ymfz (xidx rfl (hu_of hr) (sw (xidx rfl (hu_of hr) (sw (xidx rfl (hu_of hr) (sw (xn (pv 1))) (sw (xstr [112, 114, 101, 115, 115, 101, 115] (by decide +kernel))) (fun _ _ => rfl))) (sw (xn (pv 3))) (fun _ _ => rfl))) (sw (xbm1 (t := .list) PySem.F.plainAttrs_list PySem.F.slot_list_index PySem.F.type_list_index (mt_lidxD rfl hr65) (sw (fs (xlst (xcons (xstr [97, 98, 111, 118, 101] (by decide +kernel)) (xcons (xstr [98, 101, 108, 111, 119] (by decide +kernel)) xnil))))) (sw (xn (pv 4))))) (fun _ _ => rfl)) ymnil)))
    (ycons (ysetlc (i := 7) (own := [("_law_place", 16)]) rfl nd rfl rfl (sw_true rfl rfl rfl (by decide +kernel)) (isw (xit rfl (xidx rfl (hu_of hr) (sw (xn (pv 1))) (sw (xstr [112, 108, 97, 99, 101, 115] (by decide +kernel))) (fun _ _ => rfl)))) (blkOk_by (own := [("_law_place", 16)]) (N := N__law_adds_up) (sc := defScope s__law_adds_up) (by decide +kernel)) (fun _ _ _ _ _ => (xgn (pg_name (i := 16) nd rfl (.inl rfl) (.inr rfl)))) (fun _ _ _ _ _ => (xts1 (xtcmp (op_eqDo rfl hr.units) (sw (xidx rfl (hu_of hr) (sw (xn (pv 16))) (sw xint) (fun _ _ => rfl))) (sw (xidx rfl (hu_of hr) (sw (xn (pv 6))) (sw xint) (fun _ _ => rfl))) (nomark _)))) (fun _ _ _ _ _ => (xn (pv 16))))
    (ycons (yfor PassesOwn.never rfl (xr1 (by rfl) T.z_range (sw xint)) (xgn (pg_name (i := 8) nd rfl (.inl rfl)))
      (ycons (yset (i := 9) nd rfl (.inr rfl) (xcall G__law_far hr (by rfl) T.m__law_far T.F__law_far.kp T.b__law_far (xcons (xn (pv 0)) xnil)))
    (ycons (yset (i := 10) nd rfl (.inr rfl) (fs (xlc (own := [("_law_place", 16)]) rfl nd (isw (xit rfl (xidx rfl (hu_of hr) (sw (xn (pv 1))) (sw (xstr [112, 108, 97, 99, 101, 115] (by decide +kernel))) (fun _ _ => rfl)))) (blkOk_by (own := [("_law_place", 16)]) (N := N__law_adds_up) (sc := defScope s__law_adds_up) (by decide +kernel)) (fun _ _ _ _ _ => (xgn (pg_name (i := 16) nd rfl (.inl rfl) (.inr rfl)))) (fun _ _ _ _ _ => xts0) (fun _ _ _ _ _ => (xcallk (m := 4) (ks := ["upto"]) G_how_many_passes hr (by rfl) T.m_how_many_passes T.F_how_many_passes.kp T.kb_how_many_passes (xcons (xn (pv 2)) (xcons (xn (pv 3)) (xcons (xn (pv 4)) (xcons (xn (pv 16)) xnil)))) (xkcons (xn (pv 9)) xknil))))))
    (ycons (ysetlc (i := 11) (own := [("_law_k", 17)]) rfl nd rfl rfl (sw_true rfl rfl rfl (by decide +kernel)) (isw (xr1 (by rfl) T.z_range (sw (xcallB1 (cr_lenD rfl) (by rfl) T.z_len (by decide +kernel) (sw (xn (pv 10))))))) (blkOk_by (own := [("_law_k", 17)]) (N := N__law_adds_up) (sc := defScope s__law_adds_up) (by decide +kernel)) (fun _ _ _ _ _ => (xgn (pg_name (i := 17) nd rfl (.inl rfl) (.inr rfl)))) (fun _ _ _ _ _ => (xts1 (xtcmp (op_eqDo rfl hr.units) (sw (xidx rfl (hu_of hr) (sw (xidx rfl (hu_of hr) (sw (xidx rfl (hu_of hr) (sw (xn (pv 1))) (sw (xstr [112, 108, 97, 99, 101, 115] (by decide +kernel))) (fun _ _ => rfl))) (sw (xn (pv 17))) (fun _ _ => rfl))) (sw xint) (fun _ _ => rfl))) (sw (xidx rfl (hu_of hr) (sw (xn (pv 6))) (sw xint) (fun _ _ => rfl))) (nomark _)))) (fun _ _ _ _ _ => (xidx rfl (hu_of hr) (sw (xn (pv 10))) (sw (xn (pv 17))) (fun _ _ => rfl))))
    (yone (yif (PW.pt (xor (xtcmp (op_neDo rfl hr.units) (sw (xcallB1 (cr_sumD rfl rfl) (by rfl) T.z_sum (by decide +kernel) (sw (xn (pv 11))))) (sw (xcall G__law_beats_with hr (by rfl) T.m__law_beats_with T.F__law_beats_with.kp T.b__law_beats_with (xcons (xn (pv 5)) (xcons (xn (pv 9)) xnil)))) (nomark _)) (xor1 (xtcmp (op_neDo rfl hr.units) (sw (xcallB1 (cr_sumD rfl rfl) (by rfl) T.z_sum (by decide +kernel) (sw (xn (pv 10))))) (sw (xcallB1 (cr_sumD rfl rfl) (by rfl) T.z_sum (by decide +kernel) (sw (xn (pv 11))))) (nomark _)))))
      (yone (yret xbl))
      ynil))))))
    (ycons (yset (i := 12) nd rfl (.inr rfl) (xcallB2 (cr_minD rfl) (by rfl) T.z_min (by decide +kernel) (sw (xbin op_subD (sw (xbin op_powD (sw xint) (sw xint))) (sw xint))) (sw (xcall G__law_pick hr (by rfl) T.m__law_pick T.F__law_pick.kp T.b__law_pick (xcons (xn (pv 0)) (xcons (fs (xlst (xcons xint (xcons (xcall G__law_draw hr (by rfl) T.m__law_draw T.F__law_draw.kp T.b__law_draw (xcons (xn (pv 0)) (xcons xint xnil))) (xcons (xcall G__law_far hr (by rfl) T.m__law_far T.F__law_far.kp T.b__law_far (xcons (xn (pv 0)) xnil)) xnil))))) xnil))))))
    (ycons (yfor PassesOwn.never rfl (xr1 (by rfl) T.z_range (sw xint)) (xgn (pg_name (i := 8) nd rfl (.inl rfl)))
      (ycons (yset (i := 13) nd rfl (.inr rfl) (fs (xlc (own := [("_law_place", 16)]) rfl nd (isw (xit rfl (xn (pv 7)))) (blkOk_by (own := [("_law_place", 16)]) (N := N__law_adds_up) (sc := defScope s__law_adds_up) (by decide +kernel)) (fun _ _ _ _ _ => (xgn (pg_name (i := 16) nd rfl (.inl rfl) (.inr rfl)))) (fun _ _ _ _ _ => xts0) (fun _ _ _ _ _ => (xtup (xcons (xcallk (m := 4) (ks := ["behind"]) G_next_pass hr (by rfl) T.m_next_pass T.F_next_pass.kp T.kb_next_pass (xcons (xn (pv 2)) (xcons (xn (pv 3)) (xcons (xn (pv 4)) (xcons (xn (pv 16)) xnil)))) (xkcons (xn (pv 12)) xknil)) (xcons (xn (pv 16)) xnil)))))))
    (ycons (yset (i := 13) nd rfl (.inr rfl) (xcallB1 (cr_sortD rfl hr.units) (by rfl) T.z_sorted (by decide +kernel) (sw (fs (xlc (own := [("_law_one", 19)]) rfl nd (isw (xit rfl (xn (pv 13)))) (blkOk_by (own := [("_law_one", 19)]) (N := N__law_adds_up) (sc := defScope s__law_adds_up) (by decide +kernel)) (fun _ _ _ _ _ => (xgn (pg_name (i := 19) nd rfl (.inl rfl) (.inr rfl)))) (fun _ _ _ _ _ => (xts1 (xtcmp op_isNotDo (sw (xidx rfl (hu_of hr) (sw (xn (pv 19))) (sw xint) (fun _ _ => rfl))) (sw xnon) (nomark _)))) (fun _ _ _ _ _ => (xn (pv 19))))))))
    (ycons (yset (i := 14) nd rfl (.inr rfl) (xbin (op_addD rfl) (sw (xn (pv 12))) (sw xint)))
    (ycons (ywhile PassesOwn.never (PW.pt (xand (xtcmp (op_inDo rfl hr65) (sw (xstr [120] (by decide +kernel))) (sw (xn (pv 5))) rfl) (xand1 (xtcmp (op_neDo rfl hr.units) (sw (xidx rfl (hu_of hr) (sw (xn (pv 5))) (sw (xbin op_modD (sw (xbin op_subD (sw (xn (pv 14))) (sw xint))) (sw (xcallB1 (cr_lenD rfl) (by rfl) T.z_len (by decide +kernel) (sw (xn (pv 5))))))) (fun _ _ => rfl))) (sw (xstr [120] (by decide +kernel))) (nomark _)))))
      (yone (yset (i := 14) nd rfl (.inr rfl) (xbin (op_addD rfl) (sw (xn (pv 14))) (sw xint)))))
    (ycons (yif (xtcmp (op_ninDo rfl hr65) (sw (xstr [120] (by decide +kernel))) (sw (xn (pv 5))) rfl)
      (yone (yret (xcmp (op_eqDo rfl hr.units) (sw (xn (pv 13))) (sw (fs (xlst xnil))) (nomark _))))
      ynil)
    (ycons (yif (PW.pt (xor (xtcmp (op_eqDo rfl hr.units) (sw (xn (pv 13))) (sw (fs (xlst xnil))) (nomark _)) (xor (xtcmp (op_neDo rfl hr.units) (sw (xidx rfl (hu_of hr) (sw (xidx rfl (hu_of hr) (sw (xn (pv 13))) (sw xint) (fun _ _ => rfl))) (sw xint) (fun _ _ => rfl))) (sw (xn (pv 14))) (nomark _)) (xor1 (xtcmp (op_neDo rfl hr.units) (sw (fs (xlc (own := [("_law_one", 19)]) rfl nd (isw (xit rfl (xsl rfl (sw (xn (pv 13))) (xo1 (sw xint)) xo0))) (blkOk_by (own := [("_law_one", 19)]) (N := N__law_adds_up) (sc := defScope s__law_adds_up) (by decide +kernel)) (fun _ _ _ _ _ => (xgn (pg_name (i := 19) nd rfl (.inl rfl) (.inr rfl)))) (fun _ _ _ _ _ => (xts1 (xtcmp (op_eqDo rfl hr.units) (sw (xidx rfl (hu_of hr) (sw (xn (pv 19))) (sw xint) (fun _ _ => rfl))) (sw (xn (pv 14))) (nomark _)))) (fun _ _ _ _ _ => (xn (pv 19)))))) (sw (fs (xlst xnil))) (nomark _))))))
      (yone (yret xbl))
      ynil)
    (ycons (yif (PW.pt (xor (xtcmp (op_neDo rfl hr.units) (sw (xcall G_where hr (by rfl) T.m_where T.F_where.kp T.b_where (xcons (xn (pv 2)) (xcons (xidx rfl (hu_of hr) (sw (xidx rfl (hu_of hr) (sw (xn (pv 13))) (sw xint) (fun _ _ => rfl))) (sw xint) (fun _ _ => rfl)) (xcons (xn (pv 14)) xnil))))) (sw (xn (pv 6))) (nomark _)) (xor1 (xtcmp (op_neDo rfl hr.units) (sw (xcall G_where hr (by rfl) T.m_where T.F_where.kp T.b_where (xcons (xn (pv 2)) (xcons (xn (pv 6)) (xcons (xbin op_subD (sw xint) (sw (xn (pv 14)))) xnil))))) (sw (xidx rfl (hu_of hr) (sw (xidx rfl (hu_of hr) (sw (xn (pv 13))) (sw xint) (fun _ _ => rfl))) (sw xint) (fun _ _ => rfl))) (nomark _)))))
      (yone (yret xbl))
      ynil)
    (ycons (ysetlc (i := 15) (own := [("_law_beat", 18)]) rfl nd rfl rfl (sw_true rfl rfl rfl (by decide +kernel)) (isw (xit rfl (xtup (xcons (xn (pv 12)) (xcons (xbin op_subD (sw (xn (pv 14))) (sw xint)) (xcons (xn (pv 14)) xnil)))))) (blkOk_by (own := [("_law_beat", 18)]) (N := N__law_adds_up) (sc := defScope s__law_adds_up) (by decide +kernel)) (fun _ _ _ _ _ => (xgn (pg_name (i := 18) nd rfl (.inl rfl) (.inr rfl)))) (fun _ _ _ _ _ => xts0) (fun _ _ _ _ _ => (xcallk (m := 4) (ks := ["upto"]) G_how_many_passes hr (by rfl) T.m_how_many_passes T.F_how_many_passes.kp T.kb_how_many_passes (xcons (xn (pv 2)) (xcons (xn (pv 3)) (xcons (xn (pv 4)) (xcons (xidx rfl (hu_of hr) (sw (xidx rfl (hu_of hr) (sw (xn (pv 13))) (sw xint) (fun _ _ => rfl))) (sw xint) (fun _ _ => rfl)) xnil)))) (xkcons (xn (pv 18)) xknil))))
    (ycons (yif (xtcmp (op_neDo rfl hr.units) (sw (xn (pv 15))) (sw (fs (xlst (xcons (xidx rfl (hu_of hr) (sw (xn (pv 15))) (sw xint) (fun _ _ => rfl)) (xcons (xidx rfl (hu_of hr) (sw (xn (pv 15))) (sw xint) (fun _ _ => rfl)) (xcons (xbin (op_addD rfl) (sw (xidx rfl (hu_of hr) (sw (xn (pv 15))) (sw xint) (fun _ _ => rfl))) (sw xint)) xnil)))))) (nomark _))
      (yone (yret xbl))
      ynil)
    (yone (yset (i := 12) nd rfl (.inr rfl) (xn (pv 14))))))))))))))
    (yone (yret xbl)))))))

abbrev s__law_comes_again : Stmt := topS 58
abbrev N__law_comes_again : List Str := ["_law_feed_here", "_law_work", "_law_number", "_law_side", "_law_place", "_law_many", "_law_rests", "_law_begin", "_law_found", "_law_at", "_law_turn", "_law_rest"]
theorem sc__law_comes_again : FnScope N__law_comes_again ["_law_feed_here", "_law_work", "_law_number", "_law_side", "_law_place"] (defScope s__law_comes_again) :=
  ⟨rfl, rfl, rfl, by decide +kernel, rfl, by decide +kernel, by decide +kernel⟩
def F__law_comes_again : FX := fnF 12 (sSeq (sAsg (gTup 2 (gCons (gN 5) (gCons (gN 6) gNil))) (xCall F_passes (xCons (xN 1) (xCons (xN 2) (xCons (xN 3) (xCons (xN 4) xNil)))))) (sSeq (sSet 7 (xBin mulD (xBin fdivD (xBin minD (xBin subD (xBin powD (xC (.int 10)) (xC (.int 60))) (xC (.int 500))) (xCall F__law_far (xCons (xN 0) xNil))) (xN 5)) (xN 5))) (sSeq (sIf (xTb (xBin eqDo (xN 6) (xLst xNil))) (sRet (xBin isDo (xCallK F_next_pass (xCons (xN 1) (xCons (xN 2) (xCons (xN 3) (xCons (xN 4) xNil)))) (xCons (xN 7) xNil)) (xC .non))) sNil) (sSeq (sPar [8, 9] (mOw (xLst xNil) (mFz (xN 7) mNil))) (sSeq (sFor (xR1 (xBin addD (xUn lenD (xN 6)) (xC (.int 1)))) (gN 10) (sSeq (sSet 9 (xCallK F_next_pass (xCons (xN 1) (xCons (xN 2) (xCons (xN 3) (xCons (xN 4) xNil)))) (xCons (xN 9) xNil))) (sSeq (sIf (xNot (xTr (xUn (isiD .int) (xN 9)))) (sRet (xC (.bl false))) sNil) (sApp 8 (xN 9))))) (sRet (xBin eqDo (xV 8) (xBin addD (xLc [11] (xIt (xN 6)) (gN 11) xYes (xBin addD (xN 7) (xN 11))) (xLst (xCons (xBin addD (xBin addD (xN 7) (xN 5)) (xBin idxD (xN 6) (xC (.int 0)))) xNil))))))))))
theorem ok__law_comes_again (T : Txt K mg B) : FnOk P w K mg base CX0 (k + 9) B.f__law_comes_again B.d__law_comes_again ["_law_feed_here", "_law_work", "_law_number", "_law_side", "_law_place"] (spF (Sx K B) 5 F__law_comes_again) := by
  have nd := sc__law_comes_again.nd
  have G__law_far : FnOk P w K mg base CX0 (k + 8) B.f__law_far B.d__law_far ["_law_feed_here"] (spF (Sx K B) 1 F__law_far) := ok__law_far (k := k + 5) T
  have G_next_pass : FnOk P w K mg base CX0 (k + 8) B.f_next_pass B.d_next_pass ["work", "press", "side", "place", "behind"] (spF (Sx K B) 5 F_next_pass) := ok_next_pass (k := k + 0) T
  have G_passes : FnOk P w K mg base CX0 (k + 8) B.f_passes B.d_passes ["work", "press", "side", "place"] (spF (Sx K B) 4 F_passes) := ok_passes (k := k + 1) T
  refine Fun.pu T.F__law_comes_again sc__law_comes_again (fun cdv A outer s H E hr => ?_)
  have hr65 := units65 hr
  exact (ycons (yasg (xcall G_passes hr (by rfl) T.m_passes T.F_passes.kp T.b_passes (xcons (xn (pv 1)) (xcons (xn (pv 2)) (xcons (xn (pv 3)) (xcons (xn (pv 4)) xnil))))) (xgtup (k := 2) rfl rfl (xgcons (xgn (pg_name (i := 5) nd rfl (.inl rfl))) (xgcons (xgn (pg_name (i := 6) nd rfl (.inl rfl))) xgnil))))
    (ycons (yset (i := 7) nd rfl (.inr rfl) (xbin op_mulD (sw (xbin op_fdivD (sw (xcallB2 (cr_minD rfl) (by rfl) T.z_min (by decide +kernel) (sw (xbin op_subD (sw (xbin op_powD (sw xint) (sw xint))) (sw xint))) (sw (xcall G__law_far hr (by rfl) T.m__law_far T.F__law_far.kp T.b__law_far (xcons (xn (pv 0)) xnil))))) (sw (xn (pv 5))))) (sw (xn (pv 5)))))
    (ycons (yif (xtcmp (op_eqDo rfl hr.units) (sw (xn (pv 6))) (sw (fs (xlst xnil))) (nomark _))
      (yone (yret (xcmp op_isDo (sw (xcallk (m := 4) (ks := ["behind"]) G_next_pass hr (by rfl) T.m_next_pass T.F_next_pass.kp T.kb_next_pass (xcons (xn (pv 1)) (xcons (xn (pv 2)) (xcons (xn (pv 3)) (xcons (xn (pv 4)) xnil)))) (xkcons (xn (pv 7)) xknil))) (sw xnon) (nomark _))))
      ynil)
    (ycons (ypar (i := 8) (j := 9) (by rfl) nd rfl rfl (by decide) rfl rfl (ymow (xlst xnil) (ymfz (xn (pv 7)) ymnil)) (by rfl))
    (ycons (yfor PassesOwn.never rfl (xr1 (by rfl) T.z_range (sw (xbin (op_addD rfl) (sw (xcallB1 (cr_lenD rfl) (by rfl) T.z_len (by decide +kernel) (sw (xn (pv 6))))) (sw xint)))) (xgn (pg_name (i := 10) nd rfl (.inl rfl)))
      (ycons (yset (i := 9) nd rfl (.inl rfl) (xcallk (m := 4) (ks := ["behind"]) G_next_pass hr (by rfl) T.m_next_pass T.F_next_pass.kp T.kb_next_pass (xcons (xn (pv 1)) (xcons (xn (pv 2)) (xcons (xn (pv 3)) (xcons (xn (pv 4)) xnil)))) (xkcons (xn (pv 9)) xknil)))
    (ycons (yif (xnot (xttr rfl (sw (xisi (t := .int) rfl (by rfl) T.z_isinstance (sw (xn (pv 9))) (pe_bltn (by rfl) T.z_int (by decide +kernel) (v := .ty "int") rfl)))))
      (yone (yret xbl))
      ynil)
    (yone (yapp (pv 8) (xn (pv 9)))))))
    (yone (yret (xcmp (op_eqDo rfl hr.units) (xv (pv 8)) (sw (xbin (op_addD rfl) (sw (fs (xlc (own := [("_law_rest", 11)]) rfl nd (isw (xit rfl (xn (pv 6)))) (blkOk_by (own := [("_law_rest", 11)]) (N := N__law_comes_again) (sc := defScope s__law_comes_again) (by decide +kernel)) (fun _ _ _ _ _ => (xgn (pg_name (i := 11) nd rfl (.inl rfl) (.inr rfl)))) (fun _ _ _ _ _ => xts0) (fun _ _ _ _ _ => (xbin (op_addD rfl) (sw (xn (pv 7))) (sw (xn (pv 11)))))))) (sw (fs (xlst (xcons (xbin (op_addD rfl) (sw (xbin (op_addD rfl) (sw (xn (pv 7))) (sw (xn (pv 5))))) (sw (xidx rfl (hu_of hr) (sw (xn (pv 6))) (sw xint) (fun _ _ => rfl)))) xnil)))))) (nomark _)))))))))

end
end K05
set_option Elab.async false
set_option linter.all false
set_option maxRecDepth 100000
set_option maxHeartbeats 4000000
namespace K05
open PySem PySem.Spec PyProof.Rows L2 Fd Tx Pu Pg
section
variable {P : Program} {w : World} {K : PySem.W.Frag} {mg : Str → Option Value} {base : Heap} {B : Fs} {k : Nat}
abbrev s_law : Stmt := topS 59
abbrev N_law : List Str := ["_law_script", "_law_feed_here", "_law_turn", "_law_raw_here", "_law_work", "_law_number", "_law_side", "_law_again", "_law_place", "_law_one", "_law_other"]
theorem sc_law : FnScope N_law ["_law_script"] (defScope s_law) :=
  ⟨rfl, rfl, rfl, by decide +kernel, rfl, by decide +kernel, by decide +kernel⟩
def B_law : SX := (sSeq (sFor (xR1 (xC (.int 3))) (gN 2) (sSeq (sSet 3 (xCall F__law_raw (xCons (xN 1) (xCons (xTup (xCons (xC (.int 2)) (xCons (xC (.int 2)) (xCons (xC (.int 12)) (xCons (xC (.int 2)) (xCons (xC (.int 6)) xNil)))))) xNil)))) (sSeq (sSet 4 (xCall F__law_made (xCons (xN 3) xNil))) (sSeq (sFor (xR1 (xUn lenD (xBin idxD (xN 3) (xC (.str [112, 114, 101, 115, 115, 101, 115]))))) (gN 5) (sFor (xIt (xTup (xCons (xC (.str [97, 98, 111, 118, 101])) (xCons (xC (.str [98, 101, 108, 111, 119])) xNil)))) (gN 6) (sSeq (sIf (xNot (xTr (xCall F__law_adds_up (xCons (xN 1) (xCons (xN 3) (xCons (xN 4) (xCons (xN 5) (xCons (xN 6) xNil)))))))) (sRet (xC (.bl false))) sNil) (sIf (xNot (xTr (xCall F__law_comes_again (xCons (xN 1) (xCons (xN 4) (xCons (xN 5) (xCons (xN 6) (xCons (xCall F__law_pick (xCons (xN 1) (xCons (xBin idxD (xN 3) (xC (.str [112, 108, 97, 99, 101, 115]))) xNil))) xNil)))))))) (sRet (xC (.bl false))) sNil)))) (sFor (xR1 (xC (.int 3))) (gN 7) (sSeq (sPar [8, 9, 10] (mFz (xCall F__law_pick (xCons (xN 1) (xCons (xBin idxD (xN 3) (xC (.str [112, 108, 97, 99, 101, 115]))) xNil))) (mFz (xCall F__law_far (xCons (xN 1) xNil)) (mFz (xCall F__law_far (xCons (xN 1) xNil)) mNil)))) (sIf (xTb (xBin neDo (xCall F_where (xCons (xN 4) (xCons (xCall F_where (xCons (xN 4) (xCons (xN 8) (xCons (xN 9) xNil)))) (xCons (xBin subD (xC (.int 0)) (xN 10)) xNil)))) (xCall F_where (xCons (xN 4) (xCons (xN 8) (xCons (xBin subD (xN 9) (xN 10)) xNil)))))) (sRet (xC (.bl false))) sNil))))))) (sRet (xC (.bl true))))
theorem ok_law {f : Addr} {fd : FuncData} (F : L2.Fun K "law" "law" s_law f fd) (T : Txt K mg B) (hM : lawF 11 B_law) : FnOk P w K mg base CX0 10 f fd ["_law_script"] (spLaw K) := by
  have nd := sc_law.nd
  have G__law_feed : FnOk P w K mg base CX0 9 B.f__law_feed B.d__law_feed ["_law_script"] (spFeed K) := okB__law_feed (k := 8) T
  have G__law_adds_up : FnOk P w K mg base CX0 9 B.f__law_adds_up B.d__law_adds_up ["_law_feed_here", "_law_raw_here", "_law_work", "_law_number", "_law_side"] (spF (Sx K B) 5 F__law_adds_up) := ok__law_adds_up (k := 0) T
  have G__law_comes_again : FnOk P w K mg base CX0 9 B.f__law_comes_again B.d__law_comes_again ["_law_feed_here", "_law_work", "_law_number", "_law_side", "_law_place"] (spF (Sx K B) 5 F__law_comes_again) := ok__law_comes_again (k := 0) T
  have G__law_far : FnOk P w K mg base CX0 9 B.f__law_far B.d__law_far ["_law_feed_here"] (spF (Sx K B) 1 F__law_far) := ok__law_far (k := 6) T
  have G__law_made : FnOk P w K mg base CX0 9 B.f__law_made B.d__law_made ["_law_raw_here"] (spF (Sx K B) 1 F__law_made) := ok__law_made (k := 2) T
  have G__law_pick : FnOk P w K mg base CX0 9 B.f__law_pick B.d__law_pick ["_law_feed_here", "_law_some"] (spF (Sx K B) 2 F__law_pick) := ok__law_pick (k := 7) T
  have G__law_raw : FnOk P w K mg base CX0 9 B.f__law_raw B.d__law_raw ["_law_feed_here", "_law_sizes"] (spF (Sx K B) 2 F__law_raw) := ok__law_raw (k := 5) T
  have G_where : FnOk P w K mg base CX0 9 B.f_where B.d_where ["work", "place", "beats"] (spF (Sx K B) 3 F_where) := ok_where (k := 3) T
  refine F.ok sc_law (fun vs H Q E h => ?_) (fun cdv A outer s H vs Q E hr h => ?_)
  · obtain ⟨a, ns, rfl, _⟩ := h
    rfl
  · obtain ⟨a, ns, rfl, hS, hlen, q⟩ := h
    have hr65 := units65 hr
    refine ⟨_, (pss_cons (ps_set (i := 1) nd rfl (.inl rfl) (pe_call G__law_feed hr (by rfl) T.m__law_feed T.F__law_feed.kp T.b__law_feed .nil pass0 (pa_cons (pv 0) pa_nil)))
      (show PSs _ _ (tStm (Sx K B) B_law) from (ycons (yfor PassesOwn.never rfl (xr1 (by rfl) T.z_range (sw xint)) (xgn (pg_name (i := 2) nd rfl (.inl rfl)))
      (ycons (yset (i := 3) nd rfl (.inl rfl) (xcall G__law_raw hr (by rfl) T.m__law_raw T.F__law_raw.kp T.b__law_raw (xcons (xn (pv 1)) (xcons (xtup (xcons xint (xcons xint (xcons xint (xcons xint (xcons xint xnil)))))) xnil))))
    (ycons (yset (i := 4) nd rfl (.inl rfl) (xcall G__law_made hr (by rfl) T.m__law_made T.F__law_made.kp T.b__law_made (xcons (xn (pv 3)) xnil)))
    (ycons (yfor PassesOwn.never rfl (xr1 (by rfl) T.z_range (sw (xcallB1 (cr_lenD rfl) (by rfl) T.z_len (by decide +kernel) (sw (xidx rfl (hu_of hr) (sw (xn (pv 3))) (sw (xstr [112, 114, 101, 115, 115, 101, 115] (by decide +kernel))) (fun _ _ => rfl)))))) (xgn (pg_name (i := 5) nd rfl (.inl rfl)))
      (yone (yfor PassesOwn.never rfl (xit rfl (xtup (xcons (xstr [97, 98, 111, 118, 101] (by decide +kernel)) (xcons (xstr [98, 101, 108, 111, 119] (by decide +kernel)) xnil)))) (xgn (pg_name (i := 6) nd rfl (.inl rfl)))
      (ycons (yif (xnot (xttr rfl (sw (xcall G__law_adds_up hr (by rfl) T.m__law_adds_up T.F__law_adds_up.kp T.b__law_adds_up (xcons (xn (pv 1)) (xcons (xn (pv 3)) (xcons (xn (pv 4)) (xcons (xn (pv 5)) (xcons (xn (pv 6)) xnil)))))))))
      (yone (yret xbl))
      ynil)
    (yone (yif (xnot (xttr rfl (sw (xcall G__law_comes_again hr (by rfl) T.m__law_comes_again T.F__law_comes_again.kp T.b__law_comes_again (xcons (xn (pv 1)) (xcons (xn (pv 4)) (xcons (xn (pv 5)) (xcons (xn (pv 6)) (xcons (xcall G__law_pick hr (by rfl) T.m__law_pick T.F__law_pick.kp T.b__law_pick (xcons (xn (pv 1)) (xcons (xidx rfl (hu_of hr) (sw (xn (pv 3))) (sw (xstr [112, 108, 97, 99, 101, 115] (by decide +kernel))) (fun _ _ => rfl)) xnil))) xnil)))))))))
      (yone (yret xbl))
      ynil))))))
    (yone (yfor PassesOwn.never rfl (xr1 (by rfl) T.z_range (sw xint)) (xgn (pg_name (i := 7) nd rfl (.inl rfl)))
      (ycons (ypar3 (i := 8) (j := 9) (l := 10) (by rfl) nd rfl rfl rfl (by decide) (by decide) (by decide) rfl rfl rfl (ymfz (xcall G__law_pick hr (by rfl) T.m__law_pick T.F__law_pick.kp T.b__law_pick (xcons (xn (pv 1)) (xcons (xidx rfl (hu_of hr) (sw (xn (pv 3))) (sw (xstr [112, 108, 97, 99, 101, 115] (by decide +kernel))) (fun _ _ => rfl)) xnil))) (ymfz (xcall G__law_far hr (by rfl) T.m__law_far T.F__law_far.kp T.b__law_far (xcons (xn (pv 1)) xnil)) (ymfz (xcall G__law_far hr (by rfl) T.m__law_far T.F__law_far.kp T.b__law_far (xcons (xn (pv 1)) xnil)) ymnil))) (by rfl))
    (yone (yif (xtcmp (op_neDo rfl hr.units) (sw (xcall G_where hr (by rfl) T.m_where T.F_where.kp T.b_where (xcons (xn (pv 4)) (xcons (xcall G_where hr (by rfl) T.m_where T.F_where.kp T.b_where (xcons (xn (pv 4)) (xcons (xn (pv 8)) (xcons (xn (pv 9)) xnil)))) (xcons (xbin op_subD (sw xint) (sw (xn (pv 10)))) xnil))))) (sw (xcall G_where hr (by rfl) T.m_where T.F_where.kp T.b_where (xcons (xn (pv 4)) (xcons (xn (pv 8)) (xcons (xbin op_subD (sw (xn (pv 9))) (sw (xn (pv 10)))) xnil))))) (nomark _))
      (yone (yret xbl))
      ynil)))))))))
    (yone (yret xbl))))), ?_⟩
    exact ⟨_, rfl, a, ns, rfl, hS, hlen, fun d l cs H0 nd0 nl0 F0 s0 => feed_run (S := Sx K B) (k := 11) F0 hM q rfl⟩

end
end K05
set_option Elab.async false
set_option linter.all false
set_option maxRecDepth 100000
set_option maxHeartbeats 4000000
namespace K05
open Pu Pg Mg
theorem pow_ok {a b : Nat} (hb : b ≤ 100) (ha : a ≤ 1000) : powD (.int a) (.int b) = some (.int ((a ^ b : Nat) : Int)) := by
  show (if (0 : Int) ≤ b ∧ (b : Int) ≤ 1000 ∧ smI a = true then some (D.int ((a : Int) ^ (b : Int).toNat)) else none) = _
  rw [if_pos ⟨by omega, by omega, sm_of (by omega)⟩]
  simp
theorem h_far : Hs (F__law_far [.feed]) 5 (fun d => ∃ t : Nat, t ≤ 10 ^ 60 ∧ d = .int t) := by
  unfold F__law_far
  refine Hs.fn ?_
  refine Hs.sset (c := 1) (d := 4) (P := fun d => ∃ f : Nat, 10 ≤ f ∧ f ≤ 10 ^ 60 ∧ d = .int f) rfl ?_ ?_
  · have e9 := pow_ok (a := 10) (b := 9) (by decide) (by decide)
    have e30 := pow_ok (a := 10) (b := 30) (by decide) (by decide)
    have e60 := pow_ok (a := 10) (b := 60) (by decide) (by decide)
    conv => arg 1; simp only [xCall_e, xCons_e, xNil_e, xN_e, getS_0, getS_s, startE_c, startE_n, startE_0, lft_some_e, bnd_ret_e, bnd_bnd_e, xLst_e, xC_e, xBin_e]
    rw [show powD (.int 10) (.int 9) = _ from e9, show powD (.int 10) (.int 30) = _ from e30, show powD (.int 10) (.int 60) = _ from e60]
    conv => arg 1; simp only [lft_some_e, bnd_ret_e]
    refine (h_pick (by simp) (by simp)).mono fun d hd => ?_
    simp only [List.mem_cons, List.not_mem_nil, or_false] at hd
    rcases hd with rfl | rfl | rfl | rfl | rfl
    · exact ⟨10, by decide, by decide, rfl⟩
    · exact ⟨100, by decide, by decide, rfl⟩
    · exact ⟨10 ^ 9, by decide, by decide, rfl⟩
    · exact ⟨10 ^ 30, by decide, by decide, rfl⟩
    · exact ⟨10 ^ 60, by decide, by decide, rfl⟩
  rintro _ ⟨f, f1, f2, rfl⟩
  have f3 : (f : Int) ≤ 10 ^ 60 := by exact_mod_cast f2
  have f4 : (10 : Int) ^ 60 ≤ 10 ^ 70 := by decide
  refine Hs.rt ?_
  conv => arg 1; simp
  refine Hs.bnd (d := 3) (h_draw (by omega) (by omega)) fun d ⟨r1, h1, e⟩ => ?_
  subst e
  refine Hs.bnd (d := 2) (h_draw (by omega) (by omega)) fun d ⟨r2, h2, e⟩ => ?_
  subst e
  conv => arg 1; simp
  refine Hs.bnd (d := 1) (h_draw (by omega) (by omega)) fun d ⟨r3, h3, e⟩ => ?_
  subst e
  refine (h_pick (by simp) (by simp)).mono fun d hd => ?_
  simp only [List.mem_cons, List.not_mem_nil, or_false] at hd
  have g20 : (20 : Nat) ≤ 10 ^ 60 := by decide
  rcases hd with rfl | rfl | rfl
  · exact ⟨r1, by omega, rfl⟩
  · exact ⟨f - r2, by omega, by congr 1; omega⟩
  · exact ⟨r3, by omega, rfl⟩
theorem e_beats_with {bar : List Nat} (h : RhOk bar) (T : Nat) : F__law_beats_with [.str bar, .int T] = ret (.int (cnt (fun t => beatB bar (t : Int)) T : Nat)) := by
  have h0 := h.lo
  have h1 := h.hi
  have hb := h.big
  unfold F__law_beats_with
  refine fn_rt ?_
  refine (seq_set (.lst (((List.range bar.length).filter (xAt bar)).map fun i => .int (i : Nat))) rfl ?_).trans ?_
  · refine lc_ret (ds := (List.range bar.length).map fun i => .int (i : Nat)) (by simp [hb, rng0 (show bar.length ≤ 1000 by omega)]) ?_
    refine lcW_fil (p := xAt bar) (f := fun i => .int (i : Nat)) ?_
    intro k hk
    have hk' := List.mem_range.mp hk
    simp [idx_sn hb, List.getElem?_eq_getElem hk']
    by_cases hx : bar[k] = 120 <;> simp [hx, xAt, List.getD_eq_getElem?_getD, List.getElem?_eq_getElem hk']
  refine ret_rt ?_
  have hfl : ((List.range bar.length).filter (xAt bar)).length ≤ 6 := Nat.le_trans (List.length_filter_le _ _) (by simp; omega)
  have hpos : 0 < bar.length := h0
  simp [hb]
  rw [fdiv_ok (by omega) (mid_of (by omega)), lcW_fil (p := fun k => decide (k < T % bar.length)) (f := fun i => .int (i : Nat))]
  · simp
    rw [mul_sm2 (sm_of (by omega))]
    simp
    rw [beat_cnt h]
    simp
  · intro k hk
    simp [hb, hpos]
    have e : (T : Int) % (bar.length : Int) = ((T % bar.length : Nat) : Int) := by simp
    rw [e]
    by_cases hc : k < T % bar.length
    · rw [if_pos (by omega), if_pos hc]
    · rw [if_neg (by omega), if_neg hc]
end K05
set_option Elab.async false
set_option linter.all false
set_option maxRecDepth 100000
set_option maxHeartbeats 4000000
namespace K05
open Pu Pg Mg
theorem pow60 : powD (.int 10) (.int 60) = some (.int (10 ^ 60)) := by
  show (if (0 : Int) ≤ 60 ∧ (60 : Int) ≤ 1000 ∧ smI 10 = true then some (D.int (10 ^ (60 : Int).toNat)) else none) = _
  rw [if_pos ⟨by decide, by decide, by decide⟩]
  rfl
theorem seq_none {t : En → M Bool} {a : SX} {ρ : En} (h : t ρ = ret false) : sIf t a sNil ρ = ret (.nx ρ) := if_f h
theorem h_comes {w : Wk} (h : WkOk w) {i : Nat} {p : Ps} (hp : w.press[i]? = some p) (s : Bool) {b : Bd} (hb : b ∈ w.bands) {k : Nat} (hk : k < b.wide) :
    Hs (F__law_comes_again [.feed, workD w, .int i, .str (sideS s), placeD (b.nm, k)]) 5 (fun d => d = .bl true) := by
  have hpm : p ∈ w.press := List.mem_of_getElem? hp
  have ok := h.bd b hb
  have hbar := h.bar p hpm
  have er := rnd_le ok hbar
  have e0 := rnd_pos ok hbar
  have el := passL_len s k ok hbar
  unfold F__law_comes_again
  refine Hs.fn ?_
  refine Hs.seqE (ρ' := [.fz .feed, .fz (workD w), .fz (.int i), .fz (.str (sideS s)), .fz (placeD (b.nm, k)), .fz (.int (rnd b p)), .fz (.lst ((passL b p s k).map fun (t : Nat) => .int t)), .no, .no, .no, .no, .no]) ?_ ?_
  · exact asg_nx (passD b p s k) (by simp [e_passes h hp s hb hk]) (by rw [passD]; rfl)
  refine Hs.sset (c := 5) (d := 0) (P := fun d => ∃ q : Nat, d = .int ((q * rnd b p : Nat) : Int)) rfl ?_ ?_
  · conv => arg 1; simp [pow60]
    refine Hs.bnd (d := 0) h_far fun d ⟨t, ht, e⟩ => ?_
    subst e
    have hm0 : (0 : Int) ≤ if (t : Int) < 999999999999999999999999999999999999999999999999999999999500 then (t : Int) else 999999999999999999999999999999999999999999999999999999999500 := by
      have : (0 : Int) ≤ 999999999999999999999999999999999999999999999999999999999500 := by decide
      split
      · omega
      · exact this
    have em : ∀ a b : Int, minD (.int a) (.int b) = some (.int (if b < a then b else a)) := fun _ _ => rfl
    obtain ⟨n, hn⟩ := Int.eq_ofNat_of_zero_le hm0
    refine Hs.eq (a := .int ((n / rnd b p * rnd b p : Nat) : Int)) ?_ ⟨_, rfl⟩
    have em' := em 999999999999999999999999999999999999999999999999999999999500 t
    rw [hn] at em'
    rw [em']
    simp [fdiv_ok (show (0 : Int) < rnd b p by omega) (mid_of (by omega)), mul_sm2 (a := (n : Int) / rnd b p) (sm_of (show (rnd b p : Int).natAbs ≤ _ by omega))]
  rintro _ ⟨q, rfl⟩
  have enil : eqDo (.lst ((passL b p s k).map fun (t : Nat) => .int t)) (.lst []) = some (.bl (decide (passL b p s k = []))) := by
    rw [natmap]
    have := eq_ints ((passL b p s k).map fun (t : Nat) => (t : Int)) []
    rw [List.map_nil] at this
    rw [this]
    congr 2
    simp
  by_cases hE : passL b p s k = []
  · refine Hs.eq (a := .rt (.bl true)) ?_ ⟨_, rfl, rfl⟩
    refine seq_rt ?_
    rw [decide_eq_true hE] at enil
    rw [if_t (by simp [enil])]
    refine ret_rt ?_
    have := e_next h hp s hb hk ((q * rnd b p : Nat) : Int)
    rw [next_none hE] at this
    simp at this ⊢
    simp [this]
  rw [decide_eq_false hE] at enil
  refine Hs.seqE (ρ' := [.fz .feed, .fz (workD w), .fz (.int i), .fz (.str (sideS s)), .fz (placeD (b.nm, k)), .fz (.int (rnd b p)), .fz (.lst ((passL b p s k).map fun (t : Nat) => .int t)), .fz (.int ((q * rnd b p : Nat) : Int)), .no, .no, .no, .no]) ?_ ?_
  · refine seq_none ?_
    simp [enil]
  refine Hs.seqE (ρ' := [.fz .feed, .fz (workD w), .fz (.int i), .fz (.str (sideS s)), .fz (placeD (b.nm, k)), .fz (.int (rnd b p)), .fz (.lst ((passL b p s k).map fun (t : Nat) => .int t)), .fz (.int ((q * rnd b p : Nat) : Int)), .ow (.lst []), .fz (.int ((q * rnd b p : Nat) : Int)), .no, .no]) ?_ ?_
  · simp
  have el2 : (passL b p s k).length + 1 ≤ 1000 := by omega
  have hrng : rngD 0 (((passL b p s k).length : Int) + 1) = some ((List.range ((passL b p s k).length + 1)).map fun i => .int (i : Nat)) := by
    have := rng0 el2
    simpa using this
  refine Hs.seq (c := 0) (d := 0) (P := fun ρ => ∃ y9 y10 : Sl, ρ = [.fz .feed, .fz (workD w), .fz (.int i), .fz (.str (sideS s)), .fz (placeD (b.nm, k)), .fz (.int (rnd b p)), .fz (.lst ((passL b p s k).map fun (t : Nat) => .int t)), .fz (.int ((q * rnd b p : Nat) : Int)), .ow (.lst (((List.range ((passL b p s k).length + 1)).map fun j => ((nth b p s k q j : Nat) : Int)).map .int)), y9, y10, .no]) ?_ ?_
  · have h1 := Hs.forW (c := 0) (xs := (List.range ((passL b p s k).length + 1)).map fun i => D.int (i : Nat)) (g := gN 10) (R := fun _ => False)
      (b := sSeq (sSet 9 (xCallK F_next_pass (xCons (xN 1) (xCons (xN 2) (xCons (xN 3) (xCons (xN 4) xNil)))) (xCons (xN 9) xNil))) (sSeq (sIf (xNot (xTr (xUn (isiD .int) (xN 9)))) (sRet (xC (.bl false))) sNil) (sApp 8 (xN 9))))
      (I := fun j ρ => ∃ y10 : Sl, noOb (some y10) = true ∧ ρ = [.fz .feed, .fz (workD w), .fz (.int i), .fz (.str (sideS s)), .fz (placeD (b.nm, k)), .fz (.int (rnd b p)), .fz (.lst ((passL b p s k).map fun (t : Nat) => .int t)), .fz (.int ((q * rnd b p : Nat) : Int)), .ow (.lst (((List.range j).map fun j => ((nth b p s k q j : Nat) : Int)).map .int)), .fz (.int ((befo b p s k q j : Nat) : Int)), y10, .no]) ?_ 0 _ (Nat.zero_le _) ⟨.no, rfl, rfl⟩
    · rw [List.drop_zero, Nat.mul_zero, List.length_map, List.length_range] at h1
      show Hs (bnd (xR1 _ _) fun ds => forW _ _ ds _) _ _
      have hx : ∀ r : En, xR1 (xBin addD (xUn lenD (xN 6)) (xC (.int 1))) (.fz .feed :: .fz (workD w) :: .fz (.int i) :: .fz (.str (sideS s)) :: .fz (placeD (b.nm, k)) :: .fz (.int (rnd b p)) :: .fz (.lst ((passL b p s k).map fun (t : Nat) => .int t)) :: r) = ret ((List.range ((passL b p s k).length + 1)).map fun i => .int (i : Nat)) := fun r => by
        simp [hrng]
      rw [hx]
      refine Hs.mono h1 (fun ct hh => ?_)
      rcases hh with ⟨ρ', e, y10, _, h2⟩ | ⟨d, _, hf⟩
      · exact ⟨ρ', e, _, y10, h2⟩
      · exact hf.elim
    · rintro j x ρ hx ⟨y10, n10, rfl⟩
      have hj : j < (passL b p s k).length + 1 := by
        have := (List.getElem?_eq_some_iff.mp hx).1
        simpa using this
      refine ⟨[.fz .feed, .fz (workD w), .fz (.int i), .fz (.str (sideS s)), .fz (placeD (b.nm, k)), .fz (.int (rnd b p)), .fz (.lst ((passL b p s k).map fun (t : Nat) => .int t)), .fz (.int ((q * rnd b p : Nat) : Int)), .ow (.lst (((List.range j).map fun j => ((nth b p s k q j : Nat) : Int)).map .int)), .fz (.int ((befo b p s k q j : Nat) : Int)), .fz x, .no], by simp [n10], ?_⟩
      have en := e_next h hp s hb hk ((befo b p s k q j : Nat) : Int)
      rw [next_nth ok hbar hE q j (by omega)] at en
      refine Hs.eq (a := .nx [.fz .feed, .fz (workD w), .fz (.int i), .fz (.str (sideS s)), .fz (placeD (b.nm, k)), .fz (.int (rnd b p)), .fz (.lst ((passL b p s k).map fun (t : Nat) => .int t)), .fz (.int ((q * rnd b p : Nat) : Int)), .ow (.lst (((List.range (j + 1)).map fun j => ((nth b p s k q j : Nat) : Int)).map .int)), .fz (.int ((befo b p s k q (j + 1) : Nat) : Int)), .fz x, .no]) ?_ (.inl ⟨_, .inl rfl, .fz x, rfl, rfl⟩)
      refine (seq_set (.int (nth b p s k q j : Nat)) rfl ?_).trans ?_
      · simp [en]
      refine (seq_iff (by simp)).trans ?_
      have hjb : j < bigN := Nat.lt_of_le_of_lt (show j ≤ 100 by omega) (by decide)
      simp [hjb, List.range_succ]
      rfl
  rintro ρ ⟨y9, y10, rfl⟩
  refine Hs.eq (a := .rt (.bl true)) ?_ ⟨_, rfl, rfl⟩
  refine ret_rt ?_
  have hl : 0 < (passL b p s k).length := List.length_pos_iff.mpr hE
  have hX : (List.range ((passL b p s k).length + 1)).map (fun j => ((nth b p s k q j : Nat) : Int)) = ((passL b p s k).map fun (x : Nat) => ((q * rnd b p : Nat) : Int) + (x : Int)) ++ [((q * rnd b p : Nat) : Int) + (rnd b p : Int) + (((passL b p s k).getD 0 0 : Nat) : Int)] := by
    rw [List.range_succ, List.map_append]
    refine congr (congrArg _ ?_) ?_
    · refine List.ext_getElem (by simp) fun j h1 h2 => ?_
      have hj : j < (passL b p s k).length := by simpa using h1
      simp [nth, hj, List.getD_eq_getElem?_getD, List.getElem?_eq_getElem hj]
    · show [((nth b p s k q (passL b p s k).length : Nat) : Int)] = _
      unfold nth
      rw [if_neg (Nat.lt_irrefl _), Int.natCast_add, Int.natCast_add]
  have hi0 : idxD (.lst ((passL b p s k).map fun (t : Nat) => D.int t)) (.int 0) = some (.int ((passL b p s k).getD 0 0 : Nat)) := by
    have := idx_ln ((passL b p s k).map fun (t : Nat) => D.int t) 0
    rw [List.getElem?_map, List.getElem?_eq_getElem hl] at this
    rw [List.getD_eq_getElem?_getD, List.getElem?_eq_getElem hl]
    exact this
  have hlc : lcW (stepW (gN 11) xYes (xBin addD (xN 7) (xN 11)) [.fz .feed, .fz (workD w), .fz (.int i), .fz (.str (sideS s)), .fz (placeD (b.nm, k)), .fz (.int (rnd b p)), .fz (.lst ((passL b p s k).map fun (t : Nat) => .int t)), .fz (.int ((q * rnd b p : Nat) : Int)), .ow (.lst (((List.range ((passL b p s k).length + 1)).map fun j => ((nth b p s k q j : Nat) : Int)).map .int)), y9, y10, .no]) ((passL b p s k).map fun (t : Nat) => D.int t) = ret ((passL b p s k).map fun (x : Nat) => D.int (((q * rnd b p : Nat) : Int) + (x : Int))) := by
    refine lcW_map (f := fun (x : Nat) => D.int (((q * rnd b p : Nat) : Int) + (x : Int))) ?_
    intro x hx
    simp
  have hadd : addD (.lst ((passL b p s k).map fun (x : Nat) => D.int (((q * rnd b p : Nat) : Int) + (x : Int)))) (.lst [.int (((q * rnd b p : Nat) : Int) + (rnd b p : Int) + (((passL b p s k).getD 0 0 : Nat) : Int))]) = some (.lst ((((passL b p s k).map fun (x : Nat) => ((q * rnd b p : Nat) : Int) + (x : Int)) ++ [((q * rnd b p : Nat) : Int) + (rnd b p : Int) + (((passL b p s k).getD 0 0 : Nat) : Int)]).map .int)) := by
    rw [add_ll (by simp; omega), List.map_append, List.map_map]
    rfl
  refine bin_ret (.lst (((List.range ((passL b p s k).length + 1)).map fun j => ((nth b p s k q j : Nat) : Int)).map .int)) _ rfl (bin_ret _ _ (lc_ret (ds := (passL b p s k).map fun (t : Nat) => D.int t) rfl hlc) ?_ hadd) ?_
  · simp only [xLst_e, xCons_e, xNil_e, xBin_e, xN_e, xC_e, getS_0, getS_s, lft_some_e, bnd_ret_e, bnd_bnd_e, addD_ii, hi0]
  · rw [eq_ints, hX, decide_eq_true rfl]
end K05
set_option Elab.async false
set_option linter.all false
set_option maxRecDepth 100000
set_option maxHeartbeats 4000000
namespace K05
open Pu Pg Mg
def body1 : SX := (sSeq (sSet 9 (xCall F__law_far (xCons (xN 0) xNil))) (sSeq (sSet 10 (xLc [16] (xIt (xBin idxD (xN 1) (xC (.str [112, 108, 97, 99, 101, 115])))) (gN 16) xYes (xCallK F_how_many_passes (xCons (xN 2) (xCons (xN 3) (xCons (xN 4) (xCons (xN 16) xNil)))) (xCons (xN 9) xNil)))) (sSeq (sSet 11 (xLc [17] (xR1 (xUn lenD (xN 10))) (gN 17) (xTb (xBin eqDo (xBin idxD (xBin idxD (xBin idxD (xN 1) (xC (.str [112, 108, 97, 99, 101, 115]))) (xN 17)) (xC (.int 0))) (xBin idxD (xN 6) (xC (.int 0))))) (xBin idxD (xN 10) (xN 17)))) (sIf (xOr (xTb (xBin neDo (xUn sumD (xN 11)) (xCall F__law_beats_with (xCons (xN 5) (xCons (xN 9) xNil))))) (xTb (xBin neDo (xUn sumD (xN 10)) (xUn sumD (xN 11))))) (sRet (xC (.bl false))) sNil))))
def stA (w : Wk) (i : Nat) (s : Bool) (p : Ps) (inner : D) (y8 y9 y10 y11 y12 y13 y14 y15 : Sl) : En := [.fz .feed, .fz (rawD w), .fz (workD w), .fz (.int i), .fz (.str (sideS s)), .fz (.str p.bar), .fz (placeD (p.spot s)), .fz inner, y8, y9, y10, y11, y12, y13, y14, y15, .no, .no, .no, .no]
theorem pairs_len (w : Wk) : (pairs w.bands).length = w.spots.length := by rw [spots_pairs, List.length_map]
theorem h_body1 {w : Wk} (h : WkOk w) {i : Nat} {p : Ps} (hp : w.press[i]? = some p) (s : Bool) (inner : D) (y8 y9 y10 y11 : Sl) (n9 : noOb (some y9) = true) (n10 : noOb (some y10) = true) (n11 : noOb (some y11) = true) :
    Hs (body1 (stA w i s p inner y8 y9 y10 y11 .no .no .no .no)) 5 (fun ct => ∃ ρ', ct = .nx ρ' ∧ ∃ z9 z10 z11 : Sl, noOb (some z9) = true ∧ noOb (some z10) = true ∧ noOb (some z11) = true ∧ ρ' = stA w i s p inner y8 z9 z10 z11 .no .no .no .no) := by
  have hpm : p ∈ w.press := List.mem_of_getElem? hp
  have hL : (pairs w.bands).length ≤ 40 := by rw [pairs_len, spots_len]; exact h.sum
  unfold body1 stA
  refine Hs.sset (c := 5) (d := 0) (P := fun d => ∃ t : Nat, t ≤ 10 ^ 60 ∧ d = .int t) n9 ?_ ?_
  · conv => arg 1; simp
    exact h_far
  rintro _ ⟨T, _, rfl⟩
  have hsp : (w.spots.map placeD) = (pairs w.bands).map fun x => placeD (plOf x) := by
    rw [spots_pairs, List.map_map]
    rfl
  refine Hs.seqE (ρ' := [.fz .feed, .fz (rawD w), .fz (workD w), .fz (.int i), .fz (.str (sideS s)), .fz (.str p.bar), .fz (placeD (p.spot s)), .fz inner, y8, .fz (.int T), .fz (.lst ((pairs w.bands).map fun x => .int (howMany x.1 p s x.2 (T : Int)))), y11, .no, .no, .no, .no, .no, .no, .no, .no]) ?_ ?_
  · refine (set_nx (.lst ((pairs w.bands).map fun x => .int (howMany x.1 p s x.2 (T : Int)))) n10 ?_).trans rfl
    refine lc_ret (ds := (pairs w.bands).map fun x => placeD (plOf x)) (by simp [hsp]) ?_
    refine lcW_map (f := fun x : Bd × Nat => .int (howMany x.1 p s x.2 (T : Int))) ?_
    rintro ⟨b, k⟩ hx
    obtain ⟨hb, hk⟩ := mem_pairs.mp hx
    have := e_how_many h hp s hb hk (T : Int)
    simp [plOf, this]
  refine Hs.seqE (ρ' := [.fz .feed, .fz (rawD w), .fz (workD w), .fz (.int i), .fz (.str (sideS s)), .fz (.str p.bar), .fz (placeD (p.spot s)), .fz inner, y8, .fz (.int T), .fz (.lst ((pairs w.bands).map fun x => .int (howMany x.1 p s x.2 (T : Int)))), .fz (.lst (((pairs w.bands).filter fun x => x.1.nm == (p.spot s).1).map fun x => .int (howMany x.1 p s x.2 (T : Int)))), .no, .no, .no, .no, .no, .no, .no, .no]) ?_ ?_
  · refine (set_nx (.lst (((pairs w.bands).filter fun x => x.1.nm == (p.spot s).1).map fun x => .int (howMany x.1 p s x.2 (T : Int)))) n11 ?_).trans rfl
    have hr := rng0 (show (pairs w.bands).length ≤ 1000 by omega)
    refine lc_ret (ds := (List.range (pairs w.bands).length).map fun j => .int (j : Nat)) (by simp [hr]) ?_
    have d0 : Bd × Nat := (⟨[], 0, 0⟩, 0)
    rw [← idx_filter d0 (fun x : Bd × Nat => x.1.nm == (p.spot s).1) (fun x : Bd × Nat => D.int (howMany x.1 p s x.2 (T : Int)))]
    refine lcW_fil (p := fun j => ((pairs w.bands).getD j d0).1.nm == (p.spot s).1) (f := fun j => .int (howMany ((pairs w.bands).getD j d0).1 p s ((pairs w.bands).getD j d0).2 (T : Int))) ?_
    intro j hj
    have hj' := List.mem_range.mp hj
    have hg : (pairs w.bands).getD j d0 = (pairs w.bands)[j] := by rw [List.getD_eq_getElem?_getD, List.getElem?_eq_getElem hj']; rfl
    rw [hg]
    simp [idx_ln, hsp, List.getElem?_eq_getElem hj']
    by_cases hc : ((pairs w.bands)[j]).1.nm = (p.spot s).1 <;> simp [plOf, hc]
  have hs1 : sumD (.lst ((pairs w.bands).map fun x => .int (howMany x.1 p s x.2 (T : Int)))) = some (.int (cnt (fun t => beatB p.bar (t : Int)) T : Nat)) := by
    rw [sumD_of, all_passes h hpm]
  have hs2 : sumD (.lst (((pairs w.bands).filter fun x => x.1.nm == (p.spot s).1).map fun x => .int (howMany x.1 p s x.2 (T : Int)))) = some (.int (cnt (fun t => beatB p.bar (t : Int)) T : Nat)) := by
    rw [sumD_of, sum_filter, all_passes h hpm]
    intro x hx hne
    exact howMany_other h hpm s T (mem_pairs.mp hx).1 (by simpa using hne) x.2
  refine Hs.eq (a := .nx _) (seq_none ?_) ⟨_, rfl, _, _, _, rfl, rfl, rfl, rfl⟩
  simp [hs1, hs2, e_beats_with (h.bar p hpm) T]
end K05
set_option Elab.async false
set_option linter.all false
set_option maxRecDepth 100000
set_option maxHeartbeats 4000000
namespace K05
open Pu Pg Mg
/-- the state of the second loop -/
def stE (w : Wk) (i : Nat) (s : Bool) (p : Ps) (b0 : Bd) (y8 y9 y10 y11 : Sl) (t : Nat) (y13 y14 y15 : Sl) : En := [.fz .feed, .fz (rawD w), .fz (workD w), .fz (.int i), .fz (.str (sideS s)), .fz (.str p.bar), .fz (placeD (p.spot s)), .fz (.lst ((List.range b0.wide).map fun k => placeD (b0.nm, k))), y8, y9, y10, y11, .fz (.int t), y13, y14, y15, .no, .no, .no, .no]
theorem beat_at {bar : List Nat} (h : RhOk bar) (a : Nat) (ha : 1 ≤ a) : (bnd (lft (idxD (.str bar) (.int (((a : Int) - 1) % bar.length)))) fun x => lft (neDo x (.str [120]))) = ret (.bl (!beatB bar (a : Int))) := by
  have h1 := h.lo
  have h2 := h.big
  have h4 := Int.emod_nonneg ((a : Int) - 1) (show (bar.length : Int) ≠ 0 by omega)
  have h5 := Int.emod_lt_of_pos ((a : Int) - 1) (show (0 : Int) < bar.length by omega)
  obtain ⟨j, hj⟩ := Int.eq_ofNat_of_zero_le h4
  have hj2 : j < bar.length := by omega
  unfold beatB
  rw [hj, idx_sn h2, List.getElem?_eq_getElem hj2]
  simp [List.getD_eq_getElem?_getD, List.getElem?_eq_getElem hj2]
theorem step_wh {bar : List Nat} (h : RhOk bar) (hx : 120 ∈ bar) (a0 a1 a2 a3 a4 a6 a7 a8 a9 a10 a11 a12 a13 a15 a16 a17 a18 a19 : Sl) : ∀ (n a : Nat), 1 ≤ a → beatB bar ((a + n : Nat) : Int) = true → ∃ u k, a ≤ u ∧ beatB bar (u : Int) = true ∧ (∀ v : Nat, a ≤ v → v < u → beatB bar (v : Int) = false) ∧
    Wh (xAnd (xTb (xBin inDo (xC (.str [120])) (xN 5))) (xTb (xBin neDo (xBin idxD (xN 5) (xBin modD (xBin subD (xN 14) (xC (.int 1))) (xUn lenD (xN 5)))) (xC (.str [120]))))) (sSet 14 (xBin addD (xN 14) (xC (.int 1)))) k
      [a0, a1, a2, a3, a4, .fz (.str bar), a6, a7, a8, a9, a10, a11, a12, a13, .fz (.int a), a15, a16, a17, a18, a19] [a0, a1, a2, a3, a4, .fz (.str bar), a6, a7, a8, a9, a10, a11, a12, a13, .fz (.int u), a15, a16, a17, a18, a19] := by
  have hpos : 0 < bar.length := h.lo
  have ht : ∀ a : Nat, 1 ≤ a → xAnd (xTb (xBin inDo (xC (.str [120])) (xN 5))) (xTb (xBin neDo (xBin idxD (xN 5) (xBin modD (xBin subD (xN 14) (xC (.int 1))) (xUn lenD (xN 5)))) (xC (.str [120])))) [a0, a1, a2, a3, a4, .fz (.str bar), a6, a7, a8, a9, a10, a11, a12, a13, .fz (.int a), a15, a16, a17, a18, a19] = ret (!beatB bar (a : Int)) := by
    intro a ha
    have hb := beat_at h a ha
    refine and_t (by simp [hx]) (tb_ret ?_)
    simp [h.big, hpos]
    exact hb
  intro n
  induction n with
  | zero =>
    intro a ha hB
    exact ⟨a, 0, Nat.le_refl _, hB, fun v h1 h2 => by omega, .done (by rw [ht a ha]; have hB' : beatB bar (a : Int) = true := hB; rw [hB']; rfl)⟩
  | succ n ih =>
    intro a ha hB
    by_cases hc : beatB bar (a : Int) = true
    · exact ⟨a, 0, Nat.le_refl _, hc, fun v h1 h2 => by omega, .done (by rw [ht a ha, hc]; rfl)⟩
    · have hc' : beatB bar (a : Int) = false := by simpa using hc
      obtain ⟨u, k, h1, h2, h3, h4⟩ := ih (a + 1) (by omega) (by rw [show a + 1 + n = a + (n + 1) by omega]; exact hB)
      refine ⟨u, k + 1, by omega, h2, fun v v1 v2 => ?_, .step (by rw [ht a ha, hc']; rfl) ?_ h4⟩
      · by_cases e : v = a
        · rw [e]; exact hc'
        · exact h3 v (by omega) v2
      · simp
theorem some_beat {bar : List Nat} (h : RhOk bar) (hx : 120 ∈ bar) (t : Nat) : ∃ n, beatB bar ((t + 1 + n : Nat) : Int) = true := by
  obtain ⟨j, hj, e⟩ := List.getElem_of_mem hx
  have hpos : 0 < bar.length := h.lo
  have hlt : t < t / bar.length * bar.length + bar.length := by
    have := Nat.div_add_mod' t bar.length
    have := Nat.mod_lt t hpos
    omega
  have key : beatB bar (((j + 1) + (t / bar.length + 1) * bar.length : Nat) : Int) = true := by
    rw [beat_per h (Nat.dvd_mul_left _ _)]
    unfold beatB
    have : (((j + 1 : Nat) : Int) - 1) % (bar.length : Int) = (j : Int) := by
      rw [show (((j + 1 : Nat) : Int) - 1) = (j : Int) by omega]
      exact Int.emod_eq_of_lt (by omega) (by omega)
    rw [this]
    simp [List.getD_eq_getElem?_getD, List.getElem?_eq_getElem hj, e]
  obtain ⟨n, hn⟩ := Nat.exists_eq_add_of_le (show t + 1 ≤ (j + 1) + (t / bar.length + 1) * bar.length by rw [Nat.add_mul]; omega)
  exact ⟨n, by rw [← hn]; exact key⟩
end K05
set_option Elab.async false
set_option linter.all false
set_option maxRecDepth 100000
set_option maxHeartbeats 4000000
namespace K05
open Pu Pg Mg
def body2a : SX := (sSeq (sSet 15 (xLc [18] (xIt (xTup (xCons (xN 12) (xCons (xBin subD (xN 14) (xC (.int 1))) (xCons (xN 14) xNil))))) (gN 18) xYes (xCallK F_how_many_passes (xCons (xN 2) (xCons (xN 3) (xCons (xN 4) (xCons (xBin idxD (xBin idxD (xN 13) (xC (.int 0))) (xC (.int 1))) xNil)))) (xCons (xN 18) xNil)))) (sSeq (sIf (xTb (xBin neDo (xN 15) (xLst (xCons (xBin idxD (xN 15) (xC (.int 0))) (xCons (xBin idxD (xN 15) (xC (.int 0))) (xCons (xBin addD (xBin idxD (xN 15) (xC (.int 0))) (xC (.int 1))) xNil)))))) (sRet (xC (.bl false))) sNil) (sSet 12 (xN 14))))
def body2 : SX := (sSeq (sSet 13 (xLc [16] (xIt (xN 7)) (gN 16) xYes (xTup (xCons (xCallK F_next_pass (xCons (xN 2) (xCons (xN 3) (xCons (xN 4) (xCons (xN 16) xNil)))) (xCons (xN 12) xNil)) (xCons (xN 16) xNil))))) (sSeq (sSet 13 (xUn sortD (xLc [19] (xIt (xN 13)) (gN 19) (xTb (xBin isNotDo (xBin idxD (xN 19) (xC (.int 0))) (xC .non))) (xN 19)))) (sSeq (sSet 14 (xBin addD (xN 12) (xC (.int 1)))) (sSeq (sWhile (xAnd (xTb (xBin inDo (xC (.str [120])) (xN 5))) (xTb (xBin neDo (xBin idxD (xN 5) (xBin modD (xBin subD (xN 14) (xC (.int 1))) (xUn lenD (xN 5)))) (xC (.str [120]))))) (sSet 14 (xBin addD (xN 14) (xC (.int 1))))) (sSeq (sIf (xTb (xBin ninDo (xC (.str [120])) (xN 5))) (sRet (xBin eqDo (xN 13) (xLst xNil))) sNil) (sSeq (sIf (xOr (xTb (xBin eqDo (xN 13) (xLst xNil))) (xOr (xTb (xBin neDo (xBin idxD (xBin idxD (xN 13) (xC (.int 0))) (xC (.int 0))) (xN 14))) (xTb (xBin neDo (xLc [19] (xIt (xSl (xN 13) (xO1 (xC (.int 1))) xO0)) (gN 19) (xTb (xBin eqDo (xBin idxD (xN 19) (xC (.int 0))) (xN 14))) (xN 19)) (xLst xNil))))) (sRet (xC (.bl false))) sNil) (sSeq (sIf (xOr (xTb (xBin neDo (xCall F_where (xCons (xN 2) (xCons (xBin idxD (xBin idxD (xN 13) (xC (.int 0))) (xC (.int 1))) (xCons (xN 14) xNil)))) (xN 6))) (xTb (xBin neDo (xCall F_where (xCons (xN 2) (xCons (xN 6) (xCons (xBin subD (xC (.int 0)) (xN 14)) xNil)))) (xBin idxD (xBin idxD (xN 13) (xC (.int 0))) (xC (.int 1)))))) (sRet (xC (.bl false))) sNil) body2a)))))))
theorem h_body2a {w : Wk} (h : WkOk w) {i : Nat} {p : Ps} (hp : w.press[i]? = some p) (s : Bool) {b0 : Bd} (hb : b0 ∈ w.bands) (hn : b0.nm = (p.spot s).1) (hw : (p.spot s).2 < b0.wide) (y8 y9 y10 y11 : Sl) (t : Nat) (r : List D) (y15 : Sl) (n15 : noOb (some y15) = true)
    {U : Nat} (hU : t < U) (hUb : beatB p.bar (U : Int) = true) (hno : ∀ v : Nat, t < v → v < U → beatB p.bar (v : Int) = false) :
    ∃ z15 : Sl, noOb (some z15) = true ∧ body2a (stE w i s p b0 y8 y9 y10 y11 t (.fz (.lst (bpD ((U : Int), (b0.nm, wh b0 (p.spot s).2 (-(U : Int)))) :: r))) (.fz (.int U)) y15) = ret (.nx (stE w i s p b0 y8 y9 y10 y11 U (.fz (.lst (bpD ((U : Int), (b0.nm, wh b0 (p.spot s).2 (-(U : Int)))) :: r))) (.fz (.int U)) z15)) := by
  have hpm : p ∈ w.press := List.mem_of_getElem? hp
  have ok := h.bd b0 hb
  have hbar := h.bar p hpm
  have hp0 : passT b0 p s (wh b0 (p.spot s).2 (-(U : Int))) (U : Int) = true := by
    unfold passT
    rw [hUb, Bool.true_and]
    refine decide_eq_true (Prod.ext hn ?_)
    exact (wh_iff ok (wh_lt ok _ _) hw _).mpr rfl
  have hnb : ∀ k v, beatB p.bar v = false → passT b0 p s k v = false := fun k v h => by
    unfold passT
    rw [h, Bool.false_and]
  have hk0 := wh_lt ok (p.spot s).2 (-(U : Int))
  generalize wh b0 (p.spot s).2 (-(U : Int)) = k0 at *
  obtain ⟨c, hc⟩ : ∃ c, cnt (fun t => passT b0 p s k0 (t : Int)) t = c := ⟨_, rfl⟩
  have c1 : howMany b0 p s k0 (t : Int) = (c : Int) := by rw [howMany_cnt ok hbar, hc]
  have c2' : cnt (fun t => passT b0 p s k0 (t : Int)) (U - 1) = c := by
    have := cnt_none (P := fun t => passT b0 p s k0 (t : Int)) (t := t) (U - 1 - t) (fun v h1 h2 => hnb k0 _ (hno v h1 (by omega)))
    rw [show t + (U - 1 - t) = U - 1 by omega, hc] at this
    exact this
  have c2 : howMany b0 p s k0 ((U - 1 : Nat) : Int) = (c : Int) := by rw [howMany_cnt ok hbar, c2']
  have c3 : howMany b0 p s k0 (U : Int) = ((c : Int) + 1) := by
    rw [howMany_cnt ok hbar]
    have : cnt (fun t => passT b0 p s k0 (t : Int)) (U - 1 + 1) = c + 1 := by
      show cnt _ (U - 1) + (if passT b0 p s k0 ((U - 1 + 1 : Nat) : Int) = true then 1 else 0) = _
      rw [c2', show U - 1 + 1 = U by omega, hp0]
      rfl
    rw [show U - 1 + 1 = U by omega] at this
    rw [this]
    rfl
  refine ⟨.fz (.lst ([(c : Int), (c : Int), (c : Int) + 1].map .int)), rfl, ?_⟩
  unfold body2a
  refine (seq_set (.lst ([(c : Int), (c : Int), (c : Int) + 1].map .int)) n15 ?_).trans ?_
  · refine lc_ret (ds := [t, U - 1, U].map fun (v : Nat) => .int v) ?_ ?_
    · have : ((U : Int) - 1) = ((U - 1 : Nat) : Int) := by omega
      simp [stE, this]
    · refine (lcW_map (f := fun (v : Nat) => .int (howMany b0 p s k0 (v : Int))) ?_).trans ?_
      · intro v hv
        have := e_how_many h hp s hb hk0 (v : Int)
        simp [stE, this]
      · simp [c1, c2, c3]
  refine (seq_iff ?_).trans ?_
  · refine tb_ret (bin_ret (.lst ([(c : Int), (c : Int), (c : Int) + 1].map .int)) (.lst ([(c : Int), (c : Int), (c : Int) + 1].map .int)) ?_ ?_ ?_)
    · simp [stE]
    · simp [stE]
    · rw [ne_ints, decide_eq_true rfl]
      rfl
  · simp [stE]
theorem h_body2 {w : Wk} (h : WkOk w) {i : Nat} {p : Ps} (hp : w.press[i]? = some p) (s : Bool) {b0 : Bd} (hb : b0 ∈ w.bands) (hn : b0.nm = (p.spot s).1) (hw : (p.spot s).2 < b0.wide) (y8 y9 y10 y11 : Sl) (t : Nat) (y13 y14 y15 : Sl) (n13 : noOb (some y13) = true) (n14 : noOb (some y14) = true) (n15 : noOb (some y15) = true) :
    Hs (body2 (stE w i s p b0 y8 y9 y10 y11 t y13 y14 y15)) 0 (fun ct => (∃ ρ2, ct = .nx ρ2 ∧ ∃ (U : Nat) (z13 z14 z15 : Sl), noOb (some z13) = true ∧ noOb (some z14) = true ∧ noOb (some z15) = true ∧ ρ2 = stE w i s p b0 y8 y9 y10 y11 U z13 z14 z15) ∨ ∃ d, ct = .rt d ∧ d = .bl true) := by
  have hpm : p ∈ w.press := List.mem_of_getElem? hp
  have ok := h.bd b0 hb
  have hbar := h.bar p hpm
  have hcp : cpsOk b0.nm = true := ok.nm.cps
  have hsp : placeD (p.spot s) = placeD (b0.nm, (p.spot s).2) := by rw [hn]
  have hcf := firsts_cps hcp (p := p) (s := s) (t := t)
  have hpl := srt_pl hcf
  unfold body2
  refine Hs.seqE (ρ' := stE w i s p b0 y8 y9 y10 y11 t (.fz (.lst ((List.range b0.wide).map fun k => .tup [nextD (laterL b0 p s k (t : Int)), placeD (b0.nm, k)]))) y14 y15) ?_ ?_
  · refine (set_nx (.lst ((List.range b0.wide).map fun k => .tup [nextD (laterL b0 p s k (t : Int)), placeD (b0.nm, k)])) n13 ?_).trans rfl
    refine lc_ret (ds := (List.range b0.wide).map fun k => placeD (b0.nm, k)) rfl ?_
    refine lcW_map (f := fun k => .tup [nextD (laterL b0 p s k (t : Int)), placeD (b0.nm, k)]) ?_
    intro k hk
    have := e_next h hp s hb (List.mem_range.mp hk) (t : Int)
    simp [stE, this]
  refine Hs.seqE (ρ' := stE w i s p b0 y8 y9 y10 y11 t (.fz (.lst (((firsts b0 p s t).map bpD).mergeSort leD))) y14 y15) ?_ ?_
  · refine (set_nx (.lst (((firsts b0 p s t).map bpD).mergeSort leD)) rfl ?_).trans rfl
    refine un_ret (.lst ((firsts b0 p s t).map bpD)) ?_ (srt_bp hcf)
    refine lc_ret (ds := (List.range b0.wide).map fun k => .tup [nextD (laterL b0 p s k (t : Int)), placeD (b0.nm, k)]) rfl ?_
    refine (lcW_fm (fun k => (nxt b0 p s k t).map fun u => bpD (u, (b0.nm, k))) ?_).trans ?_
    · intro k hk
      have e := nextD_nxt b0 p s k t
      cases hq : nxt b0 p s k t with
      | none => rw [hq] at e; simp [stE, e]
      | some u => rw [hq] at e; simp [stE, e, bpD]
    · unfold firsts
      rw [List.map_filterMap]
      congr 2
      funext k
      cases nxt b0 p s k t <;> rfl
  refine Hs.seqE (ρ' := stE w i s p b0 y8 y9 y10 y11 t (.fz (.lst (((firsts b0 p s t).map bpD).mergeSort leD))) (.fz (.int ((t + 1 : Nat) : Int))) y15) ?_ ?_
  · refine (set_nx (.int ((t + 1 : Nat) : Int)) n14 ?_).trans rfl
    simp [stE]
  by_cases hx : 120 ∈ p.bar
  · obtain ⟨n, hB⟩ := some_beat hbar hx t
    obtain ⟨U, kk, hU, hUb, hno', hwh⟩ := step_wh hbar hx (.fz .feed) (.fz (rawD w)) (.fz (workD w)) (.fz (.int i)) (.fz (.str (sideS s))) (.fz (placeD (p.spot s))) (.fz (.lst ((List.range b0.wide).map fun k => placeD (b0.nm, k)))) y8 y9 y10 y11 (.fz (.int t)) (.fz (.lst (((firsts b0 p s t).map bpD).mergeSort leD))) y15 .no .no .no .no n (t + 1) (by omega) hB
    have hno : ∀ v : Nat, t < v → v < U → beatB p.bar (v : Int) = false := fun v v1 v2 => hno' v (by omega) v2
    refine Hs.seqE (ρ' := stE w i s p b0 y8 y9 y10 y11 t (.fz (.lst (((firsts b0 p s t).map bpD).mergeSort leD))) (.fz (.int U)) y15) hwh.eq ?_
    obtain ⟨m1, m2⟩ := firsts_min ok hbar hn hw (t := t) (U := U) (by omega) hUb hno
    obtain ⟨r, hr, hrU⟩ := sorted_head m1 (firsts_nodup _ _ _ _) m2
    rw [hr] at hpl ⊢
    obtain ⟨z15, nz, ha⟩ := h_body2a h hp s hb hn hw y8 y9 y10 y11 t (r.map bpD) y15 n15 (show t < U by omega) hUb hno
    have hk0 := wh_lt ok (p.spot s).2 (-(U : Int))
    have hback : wh b0 (wh b0 (p.spot s).2 (-(U : Int))) (U : Int) = (p.spot s).2 := (wh_iff ok hk0 hw _).mpr rfl
    generalize hk0' : wh b0 (p.spot s).2 (-(U : Int)) = k0 at *
    refine Hs.eq (a := .nx (stE w i s p b0 y8 y9 y10 y11 U (.fz (.lst (bpD ((U : Int), (b0.nm, k0)) :: r.map bpD))) (.fz (.int U)) z15)) ?_ (.inl ⟨_, rfl, U, .fz (.lst (bpD ((U : Int), (b0.nm, k0)) :: r.map bpD)), .fz (.int U), z15, rfl, rfl, nz, rfl⟩)
    refine (seq_iff ?_).trans ?_
    · simp [stE, hx]
    refine (seq_iff ?_).trans ?_
    · refine or_f (tb_ret (bin_ret (.lst (bpD ((U : Int), (b0.nm, k0)) :: r.map bpD)) (.lst []) rfl rfl ((eq_lnil hpl).trans (by simp)))) ?_
      refine or_f (by simp [stE]) ?_
      refine tb_ret (bin_ret (.lst []) (.lst []) ?_ rfl rfl)
      refine lc_ret (ds := r.map bpD) ?_ ?_
      · simp [stE, slD, cut1]
      · refine (lcW_fm (fun _ => none) ?_).trans ?_
        · intro x hx
          have := hrU x hx
          simp [stE, this]
        · exact congrArg ret (List.filterMap_eq_nil_iff.mpr fun _ _ => rfl)
    refine (seq_iff ?_).trans ?_
    · refine or_f ?_ ?_
      · have e1 := e_where h hb hk0 (U : Int)
        rw [hback] at e1
        have e2 := ne_pl (a := (b0.nm, (p.spot s).2)) (b := (b0.nm, (p.spot s).2)) hcp hcp
        simp [stE, e1, hsp, e2]
      · have e1 := e_where h hb hw (-(U : Int))
        rw [hk0'] at e1
        have e2 := ne_pl (a := (b0.nm, k0)) (b := (b0.nm, k0)) hcp hcp
        simp [stE, e1, hsp, e2]
    exact ha
  · have hf := firsts_nil (b := b0) hbar hx s t
    rw [hf]
    refine Hs.seqE (ρ' := stE w i s p b0 y8 y9 y10 y11 t (.fz (.lst (([] : List (Int × Pl)).map bpD |>.mergeSort leD))) (.fz (.int ((t + 1 : Nat) : Int))) y15) (Wh.eq (.done ?_)) ?_
    · exact and_f (by simp [stE, hx])
    refine Hs.eq (a := .rt (.bl true)) ?_ (.inr ⟨_, rfl, rfl⟩)
    refine seq_rt ?_
    rw [if_t (by simp [stE, hx])]
    refine ret_rt ?_
    refine bin_ret (.lst []) (.lst []) ?_ rfl rfl
    simp [stE]
end K05
set_option Elab.async false
set_option linter.all false
set_option maxRecDepth 100000
set_option maxHeartbeats 4000000
namespace K05
open Pu Pg Mg
theorem filter_pairs (nm : List Nat) : ∀ l : List Bd, (pairs l).filter (fun x => x.1.nm == nm) = pairs (l.filter fun b => b.nm == nm)
  | [] => rfl
  | b :: l => by
    have e : pairs (b :: l) = ((List.range b.wide).map fun k => (b, k)) ++ pairs l := rfl
    rw [e, List.filter_append, filter_pairs nm l, List.filter_map]
    cases hb : b.nm == nm with
    | true =>
      rw [List.filter_cons_of_pos (by exact hb), List.filter_eq_self.mpr (fun x _ => by exact hb)]
      rfl
    | false =>
      rw [List.filter_cons_of_neg (by simp [hb]), List.filter_eq_nil_iff.mpr (fun x _ => by simp [hb])]
      rfl
theorem inner_eq {w : Wk} (h : WkOk w) {b0 : Bd} (hb : b0 ∈ w.bands) : ((pairs w.bands).filter fun x => x.1.nm == b0.nm).map (fun x => placeD (plOf x)) = (List.range b0.wide).map fun k => placeD (b0.nm, k) := by
  rw [filter_pairs, filter_nm h.nd hb]
  show ((((List.range b0.wide).map fun k => (b0, k)) ++ []).map _) = _
  rw [List.append_nil, List.map_map]
  rfl
theorem side_ix (s : Bool) : lidxD (.lst [.str [97, 98, 111, 118, 101], .str [98, 101, 108, 111, 119]]) (.str (sideS s)) = some (.int (if s then 0 else 1)) := by
  cases s <;> rfl
theorem ix_rp3 (p : Ps) : idxD (rpD p) (.int 3) = some (.str p.bar) := idx_t3 _ _ _ _ _
theorem ix_rps (p : Ps) (s : Bool) : idxD (rpD p) (.int (if s then 0 else 1)) = some (placeD (p.spot s)) := by
  cases s
  · exact idx_t1 _ _ _
  · exact idx_t0 _ _
theorem h_adds_up {w : Wk} (h : WkOk w) {i : Nat} {p : Ps} (hp : w.press[i]? = some p) (s : Bool) :
    Hs (F__law_adds_up [.feed, rawD w, workD w, .int i, .str (sideS s)]) 30 (fun d => d = .bl true) := by
  have hpm : p ∈ w.press := List.mem_of_getElem? hp
  obtain ⟨b0, hb, hn, hw⟩ := mem_spots.mp (spot_in h hpm s)
  unfold F__law_adds_up
  refine Hs.fn ?_
  refine Hs.seqE (ρ' := [.fz .feed, .fz (rawD w), .fz (workD w), .fz (.int i), .fz (.str (sideS s)), .fz (.str p.bar), .fz (placeD (p.spot s)), .no, .no, .no, .no, .no, .no, .no, .no, .no, .no, .no, .no, .no]) ?_ ?_
  · have hi : idxD (.lst (w.press.map rpD)) (.int i) = some (rpD p) := by rw [idx_ln, List.getElem?_map, hp]; rfl
    simp [hi, ix_rp3, side_ix, ix_rps]
  refine Hs.seqE (ρ' := stA w i s p (.lst ((List.range b0.wide).map fun k => placeD (b0.nm, k))) .no .no .no .no .no .no .no .no) ?_ ?_
  · have hsp : (w.spots.map placeD) = (pairs w.bands).map fun x => placeD (plOf x) := by
      rw [spots_pairs, List.map_map]
      rfl
    refine (set_nx (.lst ((List.range b0.wide).map fun k => placeD (b0.nm, k))) rfl ?_).trans rfl
    refine lc_ret (ds := (pairs w.bands).map fun x => placeD (plOf x)) (by simp [hsp]) ?_
    rw [← inner_eq h hb]
    refine lcW_fil (p := fun x : Bd × Nat => x.1.nm == b0.nm) (f := fun x => placeD (plOf x)) ?_
    rintro ⟨b, k⟩ hx
    simp [← hn]
    by_cases hc : b.nm = b0.nm <;> simp [plOf, hc]
  refine Hs.seq (c := 15) (d := 15) (P := fun ρ => ∃ y8 y9 y10 y11 : Sl, noOb (some y8) = true ∧ ρ = stA w i s p (.lst ((List.range b0.wide).map fun k => placeD (b0.nm, k))) y8 y9 y10 y11 .no .no .no .no) ?_ ?_
  · have h1 := Hs.forW (c := 5) (xs := (List.range 3).map fun i => D.int (i : Nat)) (g := gN 8) (R := fun _ => False) (b := body1)
      (I := fun j ρ => ∃ y8 y9 y10 y11 : Sl, noOb (some y8) = true ∧ noOb (some y9) = true ∧ noOb (some y10) = true ∧ noOb (some y11) = true ∧ ρ = stA w i s p (.lst ((List.range b0.wide).map fun k => placeD (b0.nm, k))) y8 y9 y10 y11 .no .no .no .no) ?_ 0 _ (Nat.zero_le _) ⟨.no, .no, .no, .no, rfl, rfl, rfl, rfl, rfl⟩
    · show Hs (bnd (xR1 _ _) fun ds => forW _ _ ds _) _ _
      have hx : ∀ ρ : En, xR1 (xC (.int 3)) ρ = ret ((List.range 3).map fun i => .int (i : Nat)) := fun ρ => rfl
      rw [hx]
      refine Hs.mono h1 (fun ct hh => ?_) (by simp)
      rcases hh with ⟨ρ', e, y8, y9, y10, y11, n8, _, _, _, h2⟩ | ⟨d, _, hf⟩
      · exact ⟨ρ', e, y8, y9, y10, y11, n8, h2⟩
      · exact hf.elim
    · rintro j x ρ hx ⟨y8, y9, y10, y11, n8, n9, n10, n11, rfl⟩
      refine ⟨stA w i s p (.lst ((List.range b0.wide).map fun k => placeD (b0.nm, k))) (.fz x) y9 y10 y11 .no .no .no .no, by simp [stA, n8], ?_⟩
      refine (h_body1 h hp s _ (.fz x) y9 y10 y11 n9 n10 n11).mono fun ct ⟨ρ', e, z9, z10, z11, m9, m10, m11, e2⟩ => .inl ⟨ρ', .inl e, _, _, _, _, rfl, m9, m10, m11, e2⟩
  rintro ρ ⟨y8, y9, y10, y11, n8, rfl⟩
  refine Hs.sset (c := 15) (d := 0) (P := fun d => ∃ t : Nat, d = .int t) rfl ?_ ?_
  · conv => arg 1; simp [stA, pow60]
    refine Hs.bnd (d := 10) (h_draw (by omega) (by omega)) fun d ⟨r1, h1, e⟩ => ?_
    subst e
    refine Hs.bnd (d := 3) h_far fun d ⟨t, ht, e⟩ => ?_
    subst e
    refine Hs.bnd (d := 0) (h_pick (by simp) (by simp)) fun d hd => ?_
    have em : ∀ a b : Int, minD (.int a) (.int b) = some (.int (if b < a then b else a)) := fun _ _ => rfl
    obtain ⟨v, e⟩ : ∃ v : Nat, d = .int v := by
      simp only [List.mem_cons, List.not_mem_nil, or_false] at hd
      rcases hd with rfl | rfl | rfl
      · exact ⟨0, rfl⟩
      · exact ⟨r1, rfl⟩
      · exact ⟨t, rfl⟩
    subst e
    have hm0 : (0 : Int) ≤ if (v : Int) < 999999999999999999999999999999999999999999999999999999999900 then (v : Int) else 999999999999999999999999999999999999999999999999999999999900 := by
      have : (0 : Int) ≤ 999999999999999999999999999999999999999999999999999999999900 := by decide
      split
      · omega
      · exact this
    obtain ⟨n, hn⟩ := Int.eq_ofNat_of_zero_le hm0
    have em' := em 999999999999999999999999999999999999999999999999999999999900 v
    rw [hn] at em'
    exact Hs.lft em' ⟨n, rfl⟩
  rintro _ ⟨t, rfl⟩
  refine Hs.seqR (c := 0) (d := 0) (P := fun _ => True) (R := fun d => d = .bl true) ?_ ?_ ?_
  · have h1 := Hs.forW (c := 0) (xs := (List.range 4).map fun i => D.int (i : Nat)) (g := gN 8) (R := fun d => d = .bl true) (b := body2)
      (I := fun j ρ => ∃ (y8 : Sl) (t : Nat) (z13 z14 z15 : Sl), noOb (some y8) = true ∧ noOb (some z13) = true ∧ noOb (some z14) = true ∧ noOb (some z15) = true ∧ ρ = stE w i s p b0 y8 y9 y10 y11 t z13 z14 z15) ?_ 0 (stE w i s p b0 y8 y9 y10 y11 t .no .no .no) (Nat.zero_le _) ⟨y8, t, .no, .no, .no, n8, rfl, rfl, rfl, rfl⟩
    · show Hs (bnd (xR1 _ _) fun ds => forW _ _ ds _) _ _
      have hx : ∀ ρ : En, xR1 (xC (.int 4)) ρ = ret ((List.range 4).map fun i => .int (i : Nat)) := fun ρ => rfl
      rw [hx]
      refine Hs.mono h1 (fun ct hh => ?_)
      rcases hh with ⟨ρ', e, _⟩ | ⟨d, e, hf⟩
      · exact .inl ⟨ρ', e, trivial⟩
      · exact .inr ⟨d, e, hf⟩
    · rintro j x ρ hx ⟨y8, t, z13, z14, z15, n8, n13, n14, n15, rfl⟩
      refine ⟨stE w i s p b0 (.fz x) y9 y10 y11 t z13 z14 z15, by simp [stE, n8], ?_⟩
      refine (h_body2 h hp s hb hn hw (.fz x) y9 y10 y11 t z13 z14 z15 n13 n14 n15).mono fun ct hh => ?_
      rcases hh with ⟨ρ2, e, U, u13, u14, u15, m13, m14, m15, e2⟩ | hr
      · exact .inl ⟨ρ2, .inl e, .fz x, U, u13, u14, u15, rfl, m13, m14, m15, e2⟩
      · exact .inr hr
  · intro ρ _
    exact Hs.eq (a := .rt (.bl true)) rfl ⟨_, rfl, rfl⟩
  · rintro d rfl
    exact ⟨_, rfl, rfl⟩
end K05
set_option Elab.async false
set_option linter.all false
set_option maxRecDepth 100000
set_option maxHeartbeats 4000000
namespace K05
open Pu Pg Mg
/-- the state of the law's lines -/
def stL (raw work : D) (y2 y5 y6 y7 y8 y9 y10 : Sl) : En := [.no, .fz .feed, y2, .fz raw, .fz work, y5, y6, y7, y8, y9, y10]
def lawIn : SX := (sSeq (sIf (xNot (xTr (xCall F__law_adds_up (xCons (xN 1) (xCons (xN 3) (xCons (xN 4) (xCons (xN 5) (xCons (xN 6) xNil)))))))) (sRet (xC (.bl false))) sNil) (sIf (xNot (xTr (xCall F__law_comes_again (xCons (xN 1) (xCons (xN 4) (xCons (xN 5) (xCons (xN 6) (xCons (xCall F__law_pick (xCons (xN 1) (xCons (xBin idxD (xN 3) (xC (.str [112, 108, 97, 99, 101, 115]))) xNil))) xNil)))))))) (sRet (xC (.bl false))) sNil))
def lawWh : SX := (sSeq (sPar [8, 9, 10] (mFz (xCall F__law_pick (xCons (xN 1) (xCons (xBin idxD (xN 3) (xC (.str [112, 108, 97, 99, 101, 115]))) xNil))) (mFz (xCall F__law_far (xCons (xN 1) xNil)) (mFz (xCall F__law_far (xCons (xN 1) xNil)) mNil)))) (sIf (xTb (xBin neDo (xCall F_where (xCons (xN 4) (xCons (xCall F_where (xCons (xN 4) (xCons (xN 8) (xCons (xN 9) xNil)))) (xCons (xBin subD (xC (.int 0)) (xN 10)) xNil)))) (xCall F_where (xCons (xN 4) (xCons (xN 8) (xCons (xBin subD (xN 9) (xN 10)) xNil)))))) (sRet (xC (.bl false))) sNil))
theorem spots_pos {w : Wk} (h : WkOk w) : 0 < w.spots.length := by
  have h1 := h.lo
  cases hb : w.bands with
  | nil => rw [hb] at h1; simp at h1
  | cons b r =>
    have ok := h.bd b (by rw [hb]; exact .head _)
    have hm : (b.nm, 0) ∈ w.spots := mem_spots.mpr ⟨b, by rw [hb]; exact .head _, rfl, ok.lo⟩
    exact List.length_pos_of_mem hm
theorem spots_hi {w : Wk} (h : WkOk w) : w.spots.length ≤ 40 := by rw [spots_len]; exact h.sum
theorem pick_spot {w : Wk} (h : WkOk w) : Hs (F__law_pick [.feed, .lst (w.spots.map placeD)]) 1 (fun d => ∃ b ∈ w.bands, ∃ k, k < b.wide ∧ d = placeD (b.nm, k)) := by
  refine (h_pick (by rw [List.length_map]; exact spots_pos h) (by rw [List.length_map]; have := spots_hi h; omega)).mono fun d hd => ?_
  obtain ⟨p, hp, rfl⟩ := List.mem_map.mp hd
  obtain ⟨b, hb, e, hk⟩ := mem_spots.mp hp
  exact ⟨b, hb, p.2, hk, by rw [e]⟩
theorem h_in {w : Wk} (h : WkOk w) {i : Nat} {p : Ps} (hp : w.press[i]? = some p) (s : Bool) (y2 y7 y8 y9 y10 : Sl) :
    Hs (lawIn (stL (rawD w) (workD w) y2 (.fz (.int i)) (.fz (.str (sideS s))) y7 y8 y9 y10)) 40 (fun ct => ct = .nx (stL (rawD w) (workD w) y2 (.fz (.int i)) (.fz (.str (sideS s))) y7 y8 y9 y10)) := by
  unfold lawIn
  refine Hs.seq (c := 30) (d := 10) (P := fun ρ => ρ = stL (rawD w) (workD w) y2 (.fz (.int i)) (.fz (.str (sideS s))) y7 y8 y9 y10) ?_ ?_
  · conv => arg 1; simp [stL]
    refine Hs.bnd (d := 0) (h_adds_up h hp s) fun d e => ?_
    subst e
    exact Hs.ret ⟨_, rfl, rfl⟩
  · rintro ρ rfl
    conv => arg 1; simp [stL]
    refine Hs.bnd (d := 9) (pick_spot h) fun d ⟨b, hb, k, hk, e⟩ => ?_
    subst e
    refine Hs.bnd (d := 0) (h_comes h hp s hb hk) fun d e => ?_
    subst e
    exact Hs.ret rfl
theorem h_wh {w : Wk} (h : WkOk w) (y2 y5 y6 y7 y8 y9 y10 : Sl) (n8 : noOb (some y8) = true) (n9 : noOb (some y9) = true) (n10 : noOb (some y10) = true) :
    Hs (lawWh (stL (rawD w) (workD w) y2 y5 y6 y7 y8 y9 y10)) 11 (fun ct => ∃ z8 z9 z10 : Sl, noOb (some z8) = true ∧ noOb (some z9) = true ∧ noOb (some z10) = true ∧ ct = .nx (stL (rawD w) (workD w) y2 y5 y6 y7 z8 z9 z10)) := by
  unfold lawWh
  refine Hs.seq (c := 11) (d := 0) (P := fun ρ => ∃ b ∈ w.bands, ∃ k t u : Nat, k < b.wide ∧ ρ = stL (rawD w) (workD w) y2 y5 y6 y7 (.fz (placeD (b.nm, k))) (.fz (.int t)) (.fz (.int u))) ?_ ?_
  · conv => arg 1; simp [stL]
    refine Hs.bnd (d := 10) (pick_spot h) fun d ⟨b, hb, k, hk, e⟩ => ?_
    subst e
    refine Hs.bnd (d := 5) h_far fun d ⟨t, ht, e⟩ => ?_
    subst e
    refine Hs.bnd (d := 0) h_far fun d ⟨u, hu, e⟩ => ?_
    subst e
    refine Hs.eq (a := .nx (stL (rawD w) (workD w) y2 y5 y6 y7 (.fz (placeD (b.nm, k))) (.fz (.int t)) (.fz (.int u)))) (by simp [n8, n9, n10, stL]) ⟨_, rfl, b, hb, k, t, u, hk, rfl⟩
  · rintro ρ ⟨b, hb, k, t, u, hk, rfl⟩
    have ok := h.bd b hb
    refine Hs.eq (a := .nx (stL (rawD w) (workD w) y2 y5 y6 y7 (.fz (placeD (b.nm, k))) (.fz (.int t)) (.fz (.int u)))) (seq_none ?_) ⟨_, _, _, rfl, rfl, rfl, rfl⟩
    have hc := ok.nm.cps
    have e1 := e_where h hb hk (t : Int)
    have e2 := e_where h hb (wh_lt ok k (t : Int)) (-(u : Int))
    have e3 := e_where h hb hk ((t : Int) - (u : Int))
    rw [wh_add ok, ← Int.sub_eq_add_neg] at e2
    have e4 := ne_pl (a := (b.nm, wh b k ((t : Int) - (u : Int)))) (b := (b.nm, wh b k ((t : Int) - (u : Int)))) hc hc
    simp [stL, e1, e2, e3, e4]
def lawTurn : SX := (sSeq (sSet 3 (xCall F__law_raw (xCons (xN 1) (xCons (xTup (xCons (xC (.int 2)) (xCons (xC (.int 2)) (xCons (xC (.int 12)) (xCons (xC (.int 2)) (xCons (xC (.int 6)) xNil)))))) xNil)))) (sSeq (sSet 4 (xCall F__law_made (xCons (xN 3) xNil))) (sSeq (sFor (xR1 (xUn lenD (xBin idxD (xN 3) (xC (.str [112, 114, 101, 115, 115, 101, 115]))))) (gN 5) (sFor (xIt (xTup (xCons (xC (.str [97, 98, 111, 118, 101])) (xCons (xC (.str [98, 101, 108, 111, 119])) xNil)))) (gN 6) lawIn)) (sFor (xR1 (xC (.int 3))) (gN 7) lawWh))))
theorem h_turn (r w0 : Sl) (y2 y5 y6 y7 y8 y9 y10 : Sl) (nr : noOb (some r) = true) (nw : noOb (some w0) = true) (n5 : noOb (some y5) = true) (n6 : noOb (some y6) = true) (n7 : noOb (some y7) = true) (n8 : noOb (some y8) = true) (n9 : noOb (some y9) = true) (n10 : noOb (some y10) = true) :
    Hs (lawTurn [.no, .fz .feed, y2, r, w0, y5, y6, y7, y8, y9, y10]) 1000 (fun ct => ∃ r w0 y5 y6 y7 y8 y9 y10 : Sl, noOb (some r) = true ∧ noOb (some w0) = true ∧ noOb (some y5) = true ∧ noOb (some y6) = true ∧ noOb (some y7) = true ∧ noOb (some y8) = true ∧ noOb (some y9) = true ∧ noOb (some y10) = true ∧ ct = .nx [.no, .fz .feed, y2, r, w0, y5, y6, y7, y8, y9, y10]) := by
  unfold lawTurn
  refine Hs.sset (c := 300) (d := 700) (P := fun d => ∃ w, RawOk 2 2 12 2 6 w ∧ d = rawD w) nr ?_ ?_
  · conv => arg 1; simp
    exact h_raw (s0 := 2) (s1 := 2) (s2 := 12) (s3 := 2) (s4 := 6) (by decide) (by decide) (by decide) (by decide) (by decide) (by decide) (by decide) (by decide) (by decide)
  rintro _ ⟨w, hr, rfl⟩
  have h := hr.ok
  have hpr := hr.pr
  refine Hs.seqE (ρ' := stL (rawD w) (workD w) y2 y5 y6 y7 y8 y9 y10) ?_ ?_
  · refine (set_nx (workD w) nw ?_).trans rfl
    simp [e_made h]
  refine Hs.seq (c := 200) (d := 500) (P := fun ρ => ∃ y5 y6 : Sl, noOb (some y5) = true ∧ noOb (some y6) = true ∧ ρ = stL (rawD w) (workD w) y2 y5 y6 y7 y8 y9 y10) ?_ ?_
  · have h1 := Hs.forW (c := 80) (xs := (List.range w.press.length).map fun i => D.int (i : Nat)) (g := gN 5) (R := fun _ => False) (b := sFor (xIt (xTup (xCons (xC (.str [97, 98, 111, 118, 101])) (xCons (xC (.str [98, 101, 108, 111, 119])) xNil)))) (gN 6) lawIn)
      (I := fun j ρ => ∃ y5 y6 : Sl, noOb (some y5) = true ∧ noOb (some y6) = true ∧ ρ = stL (rawD w) (workD w) y2 y5 y6 y7 y8 y9 y10) ?_ 0 _ (Nat.zero_le _) ⟨y5, y6, n5, n6, rfl⟩
    · show Hs (bnd (xR1 _ _) fun ds => forW _ _ ds _) _ _
      have hx : xR1 (xUn lenD (xBin idxD (xN 3) (xC (.str [112, 114, 101, 115, 115, 101, 115])))) (stL (rawD w) (workD w) y2 y5 y6 y7 y8 y9 y10) = ret ((List.range w.press.length).map fun i => .int (i : Nat)) := by
        simp [stL, rng0 (show w.press.length ≤ 1000 by omega)]
      rw [hx]
      refine Hs.mono h1 (fun ct hh => ?_) (by simp; omega)
      rcases hh with ⟨ρ', e, h2⟩ | ⟨d, _, hf⟩
      · exact ⟨ρ', e, h2⟩
      · exact hf.elim
    · rintro j x ρ hx ⟨y5, y6, n5, n6, rfl⟩
      obtain ⟨hj, hxe⟩ := List.getElem?_eq_some_iff.mp hx
      have hj' : j < w.press.length := by simpa using hj
      have ex : x = .int (j : Nat) := by rw [← hxe]; simp
      subst ex
      refine ⟨stL (rawD w) (workD w) y2 (.fz (.int (j : Nat))) y6 y7 y8 y9 y10, by simp [stL, n5], ?_⟩
      have h2 := Hs.forW (c := 40) (xs := [true, false].map fun s => D.str (sideS s)) (g := gN 6) (R := fun _ => False) (b := lawIn)
        (I := fun _ ρ => ∃ y6 : Sl, noOb (some y6) = true ∧ ρ = stL (rawD w) (workD w) y2 (.fz (.int (j : Nat))) y6 y7 y8 y9 y10) ?_ 0 _ (Nat.zero_le _) ⟨y6, n6, rfl⟩
      · show Hs (bnd (xIt _ _) fun ds => forW _ _ ds _) _ _
        have hx : ∀ ρ : En, xIt (xTup (xCons (xC (.str [97, 98, 111, 118, 101])) (xCons (xC (.str [98, 101, 108, 111, 119])) xNil))) ρ = ret ([true, false].map fun s => D.str (sideS s)) := fun ρ => rfl
        rw [hx]
        refine Hs.mono h2 (fun ct hh => ?_) (by simp)
        rcases hh with ⟨ρ', e, y6, n6, e2⟩ | ⟨d, _, hf⟩
        · exact .inl ⟨ρ', .inl e, _, y6, rfl, n6, e2⟩
        · exact hf.elim
      · rintro m x ρ hx ⟨y6, n6, rfl⟩
        obtain ⟨s, _, rfl⟩ := List.mem_map.mp (List.mem_of_getElem? hx)
        refine ⟨stL (rawD w) (workD w) y2 (.fz (.int (j : Nat))) (.fz (.str (sideS s))) y7 y8 y9 y10, by simp [stL, n6], ?_⟩
        refine (h_in h (List.getElem?_eq_getElem hj') s y2 y7 y8 y9 y10).mono fun ct e => .inl ⟨_, .inl e, _, rfl, rfl⟩
  rintro ρ ⟨y5, y6, n5, n6, rfl⟩
  have h1 := Hs.forW (c := 11) (xs := (List.range 3).map fun i => D.int (i : Nat)) (g := gN 7) (R := fun _ => False) (b := lawWh)
    (I := fun j ρ => ∃ y7 y8 y9 y10 : Sl, noOb (some y7) = true ∧ noOb (some y8) = true ∧ noOb (some y9) = true ∧ noOb (some y10) = true ∧ ρ = stL (rawD w) (workD w) y2 y5 y6 y7 y8 y9 y10) ?_ 0 _ (Nat.zero_le _) ⟨y7, y8, y9, y10, n7, n8, n9, n10, rfl⟩
  · show Hs (bnd (xR1 _ _) fun ds => forW _ _ ds _) _ _
    have hx : ∀ ρ : En, xR1 (xC (.int 3)) ρ = ret ((List.range 3).map fun i => .int (i : Nat)) := fun ρ => rfl
    rw [hx]
    refine Hs.mono h1 (fun ct hh => ?_) (by simp)
    rcases hh with ⟨ρ', e, y7, y8, y9, y10, n7, n8, n9, n10, rfl⟩ | ⟨d, _, hf⟩
    · exact ⟨_, _, y5, y6, y7, y8, y9, y10, rfl, rfl, n5, n6, n7, n8, n9, n10, e⟩
    · exact hf.elim
  · rintro j x ρ hx ⟨y7, y8, y9, y10, n7, n8, n9, n10, rfl⟩
    refine ⟨stL (rawD w) (workD w) y2 y5 y6 (.fz x) y8 y9 y10, by simp [stL, n7], ?_⟩
    exact (h_wh h y2 y5 y6 (.fz x) y8 y9 y10 n8 n9 n10).mono fun ct ⟨z8, z9, z10, m8, m9, m10, e⟩ => .inl ⟨_, .inl e, .fz x, z8, z9, z10, rfl, m8, m9, m10, rfl⟩
theorem law_loop : Hs (sFor (xR1 (xC (.int 3))) (gN 2) lawTurn [.no, .fz .feed, .no, .no, .no, .no, .no, .no, .no, .no, .no]) 3000 (fun ct => ∃ ρ', ct = .nx ρ' ∧ True) := by
  refine Hs.mono (Hs.forR (c := 1000) (d := 3000) (R := fun _ => False) 3
      (fun j ρ => ∃ y2 r w0 y5 y6 y7 y8 y9 y10 : Sl, noOb (some y2) = true ∧ noOb (some r) = true ∧ noOb (some w0) = true ∧ noOb (some y5) = true ∧ noOb (some y6) = true ∧ noOb (some y7) = true ∧ noOb (some y8) = true ∧ noOb (some y9) = true ∧ noOb (some y10) = true ∧ ρ = [.no, .fz .feed, y2, r, w0, y5, y6, y7, y8, y9, y10]) rfl ⟨.no, .no, .no, .no, .no, .no, .no, .no, .no, rfl, rfl, rfl, rfl, rfl, rfl, rfl, rfl, rfl, rfl⟩ ?_ (by decide)) ?_
  · rintro j ρ hx ⟨y2, r, w0, y5, y6, y7, y8, y9, y10, n2, nr, nw, n5, n6, n7, n8, n9, n10, rfl⟩
    refine ⟨[.no, .fz .feed, .fz (.int j), r, w0, y5, y6, y7, y8, y9, y10], by simp [n2], ?_⟩
    exact (h_turn r w0 (.fz (.int j)) y5 y6 y7 y8 y9 y10 nr nw n5 n6 n7 n8 n9 n10).mono fun ct ⟨r, w0, y5, y6, y7, y8, y9, y10, mr, mw, m5, m6, m7, m8, m9, m10, e⟩ => .inl ⟨_, .inl e, .fz (.int j), r, w0, y5, y6, y7, y8, y9, y10, rfl, mr, mw, m5, m6, m7, m8, m9, m10, rfl⟩
  · rintro ct (⟨ρ', e, _⟩ | ⟨d, _, hf⟩)
    · exact ⟨ρ', e, trivial⟩
    · exact hf.elim
theorem law_ends (ρ : En) : sRet (xC (.bl true)) ρ = ret (.rt (.bl true)) := rfl
theorem law_is : B_law = sSeq (sFor (xR1 (xC (.int 3))) (gN 2) lawTurn) (sRet (xC (.bl true))) := rfl
theorem law_math : lawF 11 B_law := by
  refine Hs.law ?_
  rw [law_is]
  refine Hs.seq (c := 3000) (d := 0) (P := fun _ => True) law_loop (fun ρ _ => Hs.eq (law_ends ρ) rfl) ?_
  exact Nat.le_of_ble_eq_true rfl
end K05
set_option Elab.async false
set_option linter.all false
set_option maxRecDepth 100000
set_option maxHeartbeats 4000000
namespace K05
open PySem PySem.Spec PyProof.Rows L2 Fd Tx Pu Pg
theorem all_mk {l : PySem.W.OpenLaw} {w : World} {K : PySem.W.Frag} {h : Heap} {mg : Str → Option Value} {fa : Addr} (X : K.In h) (G : h.Ns mainGlobals mg) (hfa : mg "law" = some (.ref fa))
    {k_none : Addr} {C_Band : Addr} {C_Press : Addr} {C_Work : Addr} {f0 : Addr} {od0 an0 : Option Addr} {sl0 : Array (Option Value)} {oc0 kV0 dc0 pm0 cd0 ct0 : Value} {f1 : Addr} {od1 an1 : Option Addr} {sl1 : Array (Option Value)} {oc1 kV1 dc1 pm1 cd1 ct1 : Value}
    {f2 : Addr} {od2 an2 : Option Addr} {sl2 : Array (Option Value)} {oc2 kV2 dc2 pm2 cd2 ct2 : Value} {f3 : Addr} {od3 an3 : Option Addr} {sl3 : Array (Option Value)} {oc3 kV3 dc3 pm3 cd3 ct3 : Value} {f4 : Addr} {od4 an4 : Option Addr} {sl4 : Array (Option Value)} {oc4 kV4 dc4 pm4 cd4 ct4 : Value}
    {f5 : Addr} {od5 an5 : Option Addr} {sl5 : Array (Option Value)} {oc5 kV5 dc5 pm5 cd5 ct5 : Value} {f6 : Addr} {od6 an6 : Option Addr} {sl6 : Array (Option Value)} {oc6 kV6 dc6 pm6 cd6 ct6 : Value} {f7 : Addr} {od7 an7 : Option Addr} {sl7 : Array (Option Value)} {oc7 kV7 dc7 pm7 cd7 ct7 : Value}
    {f8 : Addr} {od8 an8 : Option Addr} {sl8 : Array (Option Value)} {oc8 kV8 dc8 pm8 cd8 ct8 : Value} {f9 : Addr} {od9 an9 : Option Addr} {sl9 : Array (Option Value)} {oc9 kV9 dc9 pm9 cd9 ct9 : Value} {f10 : Addr} {od10 an10 : Option Addr} {sl10 : Array (Option Value)} {oc10 kV10 dc10 pm10 cd10 ct10 : Value}
    {f11 : Addr} {od11 an11 : Option Addr} {sl11 : Array (Option Value)} {oc11 kV11 dc11 pm11 cd11 ct11 : Value} {f12 : Addr} {od12 an12 : Option Addr} {sl12 : Array (Option Value)} {oc12 kV12 dc12 pm12 cd12 ct12 : Value} {f13 : Addr} {od13 an13 : Option Addr} {sl13 : Array (Option Value)} {oc13 kV13 dc13 pm13 cd13 ct13 : Value}
    {f14 : Addr} {od14 an14 : Option Addr} {sl14 : Array (Option Value)} {oc14 kV14 dc14 pm14 cd14 ct14 : Value} {f15 : Addr} {od15 an15 : Option Addr} {sl15 : Array (Option Value)} {oc15 kV15 dc15 pm15 cd15 ct15 : Value} {f16 : Addr} {od16 an16 : Option Addr} {sl16 : Array (Option Value)} {oc16 kV16 dc16 pm16 cd16 ct16 : Value}
    {f17 : Addr} {od17 an17 : Option Addr} {sl17 : Array (Option Value)} {oc17 kV17 dc17 pm17 cd17 ct17 : Value} {f18 : Addr} {od18 an18 : Option Addr} {sl18 : Array (Option Value)} {oc18 kV18 dc18 pm18 cd18 ct18 : Value} {f19 : Addr} {od19 an19 : Option Addr} {sl19 : Array (Option Value)} {oc19 kV19 dc19 pm19 cd19 ct19 : Value}
    {f20 : Addr} {od20 an20 : Option Addr} {sl20 : Array (Option Value)} {oc20 kV20 dc20 pm20 cd20 ct20 : Value} {f21 : Addr} {od21 an21 : Option Addr} {sl21 : Array (Option Value)} {oc21 kV21 dc21 pm21 cd21 ct21 : Value} {f22 : Addr} {od22 an22 : Option Addr} {sl22 : Array (Option Value)} {oc22 kV22 dc22 pm22 cd22 ct22 : Value}
    {f23 : Addr} {od23 an23 : Option Addr} {sl23 : Array (Option Value)} {oc23 kV23 dc23 pm23 cd23 ct23 : Value} {T23 : Addr} {oT23 : Obj} {nT23 : Nat} {f24 : Addr} {od24 an24 : Option Addr} {sl24 : Array (Option Value)} {oc24 kV24 dc24 pm24 cd24 ct24 : Value} {f25 : Addr}
    {od25 an25 : Option Addr} {sl25 : Array (Option Value)} {oc25 kV25 dc25 pm25 cd25 ct25 : Value} {f26 : Addr} {od26 an26 : Option Addr} {sl26 : Array (Option Value)} {oc26 kV26 dc26 pm26 cd26 ct26 : Value} {f27 : Addr} {od27 an27 : Option Addr} {sl27 : Array (Option Value)} {oc27 kV27 dc27 pm27 cd27 ct27 : Value} {f28 : Addr}
    {od28 an28 : Option Addr} {sl28 : Array (Option Value)} {oc28 kV28 dc28 pm28 cd28 ct28 : Value} {f29 : Addr} {od29 an29 : Option Addr} {sl29 : Array (Option Value)} {oc29 kV29 dc29 pm29 cd29 ct29 : Value} {f30 : Addr} {od30 an30 : Option Addr} {sl30 : Array (Option Value)} {oc30 kV30 dc30 pm30 cd30 ct30 : Value} {f31 : Addr}
    {od31 an31 : Option Addr} {sl31 : Array (Option Value)} {oc31 kV31 dc31 pm31 cd31 ct31 : Value} {f32 : Addr} {od32 an32 : Option Addr} {sl32 : Array (Option Value)} {oc32 dc32 pm32 cd32 ct32 : Value} {D32 : Addr} {tk32_0 : Tok} {f33 : Addr} {od33 an33 : Option Addr} {sl33 : Array (Option Value)}
    {oc33 kV33 dc33 pm33 cd33 ct33 : Value} {f34 : Addr} {od34 an34 : Option Addr} {sl34 : Array (Option Value)} {oc34 kV34 dc34 pm34 cd34 ct34 : Value} {f35 : Addr} {od35 an35 : Option Addr} {sl35 : Array (Option Value)} {oc35 kV35 dc35 pm35 cd35 ct35 : Value} {f36 : Addr} {od36 an36 : Option Addr} {sl36 : Array (Option Value)}
    {oc36 kV36 dc36 pm36 cd36 ct36 : Value} {f37 : Addr} {od37 an37 : Option Addr} {sl37 : Array (Option Value)} {oc37 kV37 dc37 pm37 cd37 ct37 : Value} {f38 : Addr} {od38 an38 : Option Addr} {sl38 : Array (Option Value)} {oc38 kV38 dc38 pm38 cd38 ct38 : Value} {f39 : Addr} {od39 an39 : Option Addr} {sl39 : Array (Option Value)}
    {oc39 kV39 dc39 pm39 cd39 ct39 : Value} {f40 : Addr} {od40 an40 : Option Addr} {sl40 : Array (Option Value)} {oc40 kV40 dc40 pm40 cd40 ct40 : Value} {f41 : Addr} {od41 an41 : Option Addr} {sl41 : Array (Option Value)} {oc41 kV41 dc41 pm41 cd41 ct41 : Value} {f42 : Addr} {od42 an42 : Option Addr} {sl42 : Array (Option Value)}
    {oc42 kV42 dc42 pm42 cd42 ct42 : Value} {f43 : Addr} {od43 an43 : Option Addr} {sl43 : Array (Option Value)} {oc43 kV43 dc43 pm43 cd43 ct43 : Value} {f44 : Addr} {od44 an44 : Option Addr} {sl44 : Array (Option Value)} {oc44 kV44 dc44 pm44 cd44 ct44 : Value} {f45 : Addr} {od45 an45 : Option Addr} {sl45 : Array (Option Value)}
    {oc45 kV45 dc45 pm45 cd45 ct45 : Value} {tk_LETTERS : Tok} {tk_LONGEST_NAME : Tok} {tk_LEAST_SIGNS : Tok} {tk_MOST_SIGNS : Tok} {tk_MARKS : Tok} {tk_WORKS : Tok} {tk_LONGEST_RHYTHM : Tok} {tk_LONG : Tok} {tk_FAR : Tok} {tk_MOST_BANDS : Tok} {tk_MOST_PLACES : Tok}
    {tk_MOST_PRESSES : Tok} {tk_ABOVE : Tok} {k_SIDES : Addr} {oK_SIDES : Obj} {nK_SIDES : Nat} {tk_SIDES_0 tk_SIDES_1 : Tok}
    (aC_Band : PySem.W.nsIn K mainGlobals "Band" = some (some (.ref C_Band)))
    (aC_Press : PySem.W.nsIn K mainGlobals "Press" = some (some (.ref C_Press)))
    (aC_Work : PySem.W.nsIn K mainGlobals "Work" = some (some (.ref C_Work)))
    (a0 : PySem.W.nsIn K mainGlobals "is_whole" = some (some (.ref f0)))
    (l0 : K.lookup f0 = some ⟨oc0, od0, .func (PySem.W.fnOf "is_whole" "is_whole" (defArgs s_is_whole) (defBody s_is_whole) (defScope s_is_whole) .none kV0 dc0 pm0 an0 cd0 ct0), sl0⟩)
    (c0 : PySem.W.codeIn K cd0 "is_whole" = true)
    (k0 : PySem.W.keepIn K (.ref f0) = true)
    (a1 : PySem.W.nsIn K mainGlobals "is_text_of" = some (some (.ref f1)))
    (l1 : K.lookup f1 = some ⟨oc1, od1, .func (PySem.W.fnOf "is_text_of" "is_text_of" (defArgs s_is_text_of) (defBody s_is_text_of) (defScope s_is_text_of) .none kV1 dc1 pm1 an1 cd1 ct1), sl1⟩)
    (c1 : PySem.W.codeIn K cd1 "is_text_of" = true)
    (k1 : PySem.W.keepIn K (.ref f1) = true)
    (a2 : PySem.W.nsIn K mainGlobals "is_name" = some (some (.ref f2)))
    (l2 : K.lookup f2 = some ⟨oc2, od2, .func (PySem.W.fnOf "is_name" "is_name" (defArgs s_is_name) (defBody s_is_name) (defScope s_is_name) .none kV2 dc2 pm2 an2 cd2 ct2), sl2⟩)
    (c2 : PySem.W.codeIn K cd2 "is_name" = true)
    (k2 : PySem.W.keepIn K (.ref f2) = true)
    (a3 : PySem.W.nsIn K mainGlobals "are_rising" = some (some (.ref f3)))
    (l3 : K.lookup f3 = some ⟨oc3, od3, .func (PySem.W.fnOf "are_rising" "are_rising" (defArgs s_are_rising) (defBody s_are_rising) (defScope s_are_rising) .none kV3 dc3 pm3 an3 cd3 ct3), sl3⟩)
    (c3 : PySem.W.codeIn K cd3 "are_rising" = true)
    (k3 : PySem.W.keepIn K (.ref f3) = true)
    (a4 : PySem.W.nsIn K mainGlobals "are_signs" = some (some (.ref f4)))
    (l4 : K.lookup f4 = some ⟨oc4, od4, .func (PySem.W.fnOf "are_signs" "are_signs" (defArgs s_are_signs) (defBody s_are_signs) (defScope s_are_signs) .none kV4 dc4 pm4 an4 cd4 ct4), sl4⟩)
    (c4 : PySem.W.codeIn K cd4 "are_signs" = true)
    (k4 : PySem.W.keepIn K (.ref f4) = true)
    (a5 : PySem.W.nsIn K mainGlobals "is_place" = some (some (.ref f5)))
    (l5 : K.lookup f5 = some ⟨oc5, od5, .func (PySem.W.fnOf "is_place" "is_place" (defArgs s_is_place) (defBody s_is_place) (defScope s_is_place) .none kV5 dc5 pm5 an5 cd5 ct5), sl5⟩)
    (c5 : PySem.W.codeIn K cd5 "is_place" = true)
    (k5 : PySem.W.keepIn K (.ref f5) = true)
    (a6 : PySem.W.nsIn K mainGlobals "is_rhythm" = some (some (.ref f6)))
    (l6 : K.lookup f6 = some ⟨oc6, od6, .func (PySem.W.fnOf "is_rhythm" "is_rhythm" (defArgs s_is_rhythm) (defBody s_is_rhythm) (defScope s_is_rhythm) .none kV6 dc6 pm6 an6 cd6 ct6), sl6⟩)
    (c6 : PySem.W.codeIn K cd6 "is_rhythm" = true)
    (k6 : PySem.W.keepIn K (.ref f6) = true)
    (a7 : PySem.W.nsIn K mainGlobals "common_divisor" = some (some (.ref f7)))
    (l7 : K.lookup f7 = some ⟨oc7, od7, .func (PySem.W.fnOf "common_divisor" "common_divisor" (defArgs s_common_divisor) (defBody s_common_divisor) (defScope s_common_divisor) .none kV7 dc7 pm7 an7 cd7 ct7), sl7⟩)
    (c7 : PySem.W.codeIn K cd7 "common_divisor" = true)
    (k7 : PySem.W.keepIn K (.ref f7) = true)
    (a8 : PySem.W.nsIn K mainGlobals "common_multiple" = some (some (.ref f8)))
    (l8 : K.lookup f8 = some ⟨oc8, od8, .func (PySem.W.fnOf "common_multiple" "common_multiple" (defArgs s_common_multiple) (defBody s_common_multiple) (defScope s_common_multiple) .none kV8 dc8 pm8 an8 cd8 ct8), sl8⟩)
    (c8 : PySem.W.codeIn K cd8 "common_multiple" = true)
    (k8 : PySem.W.keepIn K (.ref f8) = true)
    (a9 : PySem.W.findIn K (.ref C_Band) "__init__" = some (some (.ref f9)))
    (i9 : PySem.W.isFn K (.ref f9) = true)
    (l9 : K.lookup f9 = some ⟨oc9, od9, .func (PySem.W.fnOf "__init__" "Band.__init__" (defArgs s_Band___init__) (defBody s_Band___init__) (defScope s_Band___init__) .none kV9 dc9 pm9 an9 cd9 ct9), sl9⟩)
    (c9 : PySem.W.codeIn K cd9 "Band.__init__" = true)
    (k9 : PySem.W.keepIn K (.ref f9) = true)
    (a10 : PySem.W.findIn K (.ref C_Band) "called" = some (some (.ref f10)))
    (i10 : PySem.W.isFn K (.ref f10) = true)
    (l10 : K.lookup f10 = some ⟨oc10, od10, .func (PySem.W.fnOf "called" "Band.called" (defArgs s_Band_called) (defBody s_Band_called) (defScope s_Band_called) .none kV10 dc10 pm10 an10 cd10 ct10), sl10⟩)
    (c10 : PySem.W.codeIn K cd10 "Band.called" = true)
    (k10 : PySem.W.keepIn K (.ref f10) = true)
    (a11 : PySem.W.findIn K (.ref C_Band) "long" = some (some (.ref f11)))
    (i11 : PySem.W.isFn K (.ref f11) = true)
    (l11 : K.lookup f11 = some ⟨oc11, od11, .func (PySem.W.fnOf "long" "Band.long" (defArgs s_Band_long) (defBody s_Band_long) (defScope s_Band_long) .none kV11 dc11 pm11 an11 cd11 ct11), sl11⟩)
    (c11 : PySem.W.codeIn K cd11 "Band.long" = true)
    (k11 : PySem.W.keepIn K (.ref f11) = true)
    (a12 : PySem.W.findIn K (.ref C_Band) "pace" = some (some (.ref f12)))
    (i12 : PySem.W.isFn K (.ref f12) = true)
    (l12 : K.lookup f12 = some ⟨oc12, od12, .func (PySem.W.fnOf "pace" "Band.pace" (defArgs s_Band_pace) (defBody s_Band_pace) (defScope s_Band_pace) .none kV12 dc12 pm12 an12 cd12 ct12), sl12⟩)
    (c12 : PySem.W.codeIn K cd12 "Band.pace" = true)
    (k12 : PySem.W.keepIn K (.ref f12) = true)
    (a13 : PySem.W.nsIn K mainGlobals "is_table" = some (some (.ref f13)))
    (l13 : K.lookup f13 = some ⟨oc13, od13, .func (PySem.W.fnOf "is_table" "is_table" (defArgs s_is_table) (defBody s_is_table) (defScope s_is_table) .none kV13 dc13 pm13 an13 cd13 ct13), sl13⟩)
    (c13 : PySem.W.codeIn K cd13 "is_table" = true)
    (k13 : PySem.W.keepIn K (.ref f13) = true)
    (a14 : PySem.W.nsIn K mainGlobals "is_press_place" = some (some (.ref f14)))
    (l14 : K.lookup f14 = some ⟨oc14, od14, .func (PySem.W.fnOf "is_press_place" "is_press_place" (defArgs s_is_press_place) (defBody s_is_press_place) (defScope s_is_press_place) .none kV14 dc14 pm14 an14 cd14 ct14), sl14⟩)
    (c14 : PySem.W.codeIn K cd14 "is_press_place" = true)
    (k14 : PySem.W.keepIn K (.ref f14) = true)
    (a15 : PySem.W.findIn K (.ref C_Press) "__init__" = some (some (.ref f15)))
    (i15 : PySem.W.isFn K (.ref f15) = true)
    (l15 : K.lookup f15 = some ⟨oc15, od15, .func (PySem.W.fnOf "__init__" "Press.__init__" (defArgs s_Press___init__) (defBody s_Press___init__) (defScope s_Press___init__) .none kV15 dc15 pm15 an15 cd15 ct15), sl15⟩)
    (c15 : PySem.W.codeIn K cd15 "Press.__init__" = true)
    (k15 : PySem.W.keepIn K (.ref f15) = true)
    (a16 : PySem.W.findIn K (.ref C_Press) "above" = some (some (.ref f16)))
    (i16 : PySem.W.isFn K (.ref f16) = true)
    (l16 : K.lookup f16 = some ⟨oc16, od16, .func (PySem.W.fnOf "above" "Press.above" (defArgs s_Press_above) (defBody s_Press_above) (defScope s_Press_above) .none kV16 dc16 pm16 an16 cd16 ct16), sl16⟩)
    (c16 : PySem.W.codeIn K cd16 "Press.above" = true)
    (k16 : PySem.W.keepIn K (.ref f16) = true)
    (a17 : PySem.W.findIn K (.ref C_Press) "below" = some (some (.ref f17)))
    (i17 : PySem.W.isFn K (.ref f17) = true)
    (l17 : K.lookup f17 = some ⟨oc17, od17, .func (PySem.W.fnOf "below" "Press.below" (defArgs s_Press_below) (defBody s_Press_below) (defScope s_Press_below) .none kV17 dc17 pm17 an17 cd17 ct17), sl17⟩)
    (c17 : PySem.W.codeIn K cd17 "Press.below" = true)
    (k17 : PySem.W.keepIn K (.ref f17) = true)
    (a18 : PySem.W.findIn K (.ref C_Press) "table" = some (some (.ref f18)))
    (i18 : PySem.W.isFn K (.ref f18) = true)
    (l18 : K.lookup f18 = some ⟨oc18, od18, .func (PySem.W.fnOf "table" "Press.table" (defArgs s_Press_table) (defBody s_Press_table) (defScope s_Press_table) .none kV18 dc18 pm18 an18 cd18 ct18), sl18⟩)
    (c18 : PySem.W.codeIn K cd18 "Press.table" = true)
    (k18 : PySem.W.keepIn K (.ref f18) = true)
    (a19 : PySem.W.findIn K (.ref C_Press) "rhythm" = some (some (.ref f19)))
    (i19 : PySem.W.isFn K (.ref f19) = true)
    (l19 : K.lookup f19 = some ⟨oc19, od19, .func (PySem.W.fnOf "rhythm" "Press.rhythm" (defArgs s_Press_rhythm) (defBody s_Press_rhythm) (defScope s_Press_rhythm) .none kV19 dc19 pm19 an19 cd19 ct19), sl19⟩)
    (c19 : PySem.W.codeIn K cd19 "Press.rhythm" = true)
    (k19 : PySem.W.keepIn K (.ref f19) = true)
    (a20 : PySem.W.findIn K (.ref C_Press) "has_beat" = some (some (.ref f20)))
    (i20 : PySem.W.isFn K (.ref f20) = true)
    (l20 : K.lookup f20 = some ⟨oc20, od20, .func (PySem.W.fnOf "has_beat" "Press.has_beat" (defArgs s_Press_has_beat) (defBody s_Press_has_beat) (defScope s_Press_has_beat) .none kV20 dc20 pm20 an20 cd20 ct20), sl20⟩)
    (c20 : PySem.W.codeIn K cd20 "Press.has_beat" = true)
    (k20 : PySem.W.keepIn K (.ref f20) = true)
    (a21 : PySem.W.nsIn K mainGlobals "are_bands" = some (some (.ref f21)))
    (l21 : K.lookup f21 = some ⟨oc21, od21, .func (PySem.W.fnOf "are_bands" "are_bands" (defArgs s_are_bands) (defBody s_are_bands) (defScope s_are_bands) .none kV21 dc21 pm21 an21 cd21 ct21), sl21⟩)
    (c21 : PySem.W.codeIn K cd21 "are_bands" = true)
    (k21 : PySem.W.keepIn K (.ref f21) = true)
    (a22 : PySem.W.nsIn K mainGlobals "fits" = some (some (.ref f22)))
    (l22 : K.lookup f22 = some ⟨oc22, od22, .func (PySem.W.fnOf "fits" "fits" (defArgs s_fits) (defBody s_fits) (defScope s_fits) .none kV22 dc22 pm22 an22 cd22 ct22), sl22⟩)
    (c22 : PySem.W.codeIn K cd22 "fits" = true)
    (k22 : PySem.W.keepIn K (.ref f22) = true)
    (a23 : PySem.W.findIn K (.ref C_Work) "__init__" = some (some (.ref f23)))
    (i23 : PySem.W.isFn K (.ref f23) = true)
    (l23 : K.lookup f23 = some ⟨oc23, od23, .func (PySem.W.fnOf "__init__" "Work.__init__" (defArgs s_Work___init__) (defBody s_Work___init__) (defScope s_Work___init__) (.ref T23) kV23 dc23 pm23 an23 cd23 ct23), sl23⟩)
    (c23 : PySem.W.codeIn K cd23 "Work.__init__" = true)
    (k23 : PySem.W.keepIn K (.ref f23) = true)
    (lT23 : K.lookup T23 = some oT23)
    (dT23 : oT23.data = .seq (List.toArray [(.ref k_none)]) nT23)
    (a24 : PySem.W.findIn K (.ref C_Work) "presses" = some (some (.ref f24)))
    (i24 : PySem.W.isFn K (.ref f24) = true)
    (l24 : K.lookup f24 = some ⟨oc24, od24, .func (PySem.W.fnOf "presses" "Work.presses" (defArgs s_Work_presses) (defBody s_Work_presses) (defScope s_Work_presses) .none kV24 dc24 pm24 an24 cd24 ct24), sl24⟩)
    (c24 : PySem.W.codeIn K cd24 "Work.presses" = true)
    (k24 : PySem.W.keepIn K (.ref f24) = true)
    (a25 : PySem.W.findIn K (.ref C_Work) "has_place" = some (some (.ref f25)))
    (i25 : PySem.W.isFn K (.ref f25) = true)
    (l25 : K.lookup f25 = some ⟨oc25, od25, .func (PySem.W.fnOf "has_place" "Work.has_place" (defArgs s_Work_has_place) (defBody s_Work_has_place) (defScope s_Work_has_place) .none kV25 dc25 pm25 an25 cd25 ct25), sl25⟩)
    (c25 : PySem.W.codeIn K cd25 "Work.has_place" = true)
    (k25 : PySem.W.keepIn K (.ref f25) = true)
    (a26 : PySem.W.findIn K (.ref C_Work) "place_in" = some (some (.ref f26)))
    (i26 : PySem.W.isFn K (.ref f26) = true)
    (l26 : K.lookup f26 = some ⟨oc26, od26, .func (PySem.W.fnOf "place_in" "Work.place_in" (defArgs s_Work_place_in) (defBody s_Work_place_in) (defScope s_Work_place_in) .none kV26 dc26 pm26 an26 cd26 ct26), sl26⟩)
    (c26 : PySem.W.codeIn K cd26 "Work.place_in" = true)
    (k26 : PySem.W.keepIn K (.ref f26) = true)
    (a27 : PySem.W.findIn K (.ref C_Work) "band_of" = some (some (.ref f27)))
    (i27 : PySem.W.isFn K (.ref f27) = true)
    (l27 : K.lookup f27 = some ⟨oc27, od27, .func (PySem.W.fnOf "band_of" "Work.band_of" (defArgs s_Work_band_of) (defBody s_Work_band_of) (defScope s_Work_band_of) .none kV27 dc27 pm27 an27 cd27 ct27), sl27⟩)
    (c27 : PySem.W.codeIn K cd27 "Work.band_of" = true)
    (k27 : PySem.W.keepIn K (.ref f27) = true)
    (a28 : PySem.W.nsIn K mainGlobals "need_press" = some (some (.ref f28)))
    (l28 : K.lookup f28 = some ⟨oc28, od28, .func (PySem.W.fnOf "need_press" "need_press" (defArgs s_need_press) (defBody s_need_press) (defScope s_need_press) .none kV28 dc28 pm28 an28 cd28 ct28), sl28⟩)
    (c28 : PySem.W.codeIn K cd28 "need_press" = true)
    (k28 : PySem.W.keepIn K (.ref f28) = true)
    (a29 : PySem.W.nsIn K mainGlobals "where" = some (some (.ref f29)))
    (l29 : K.lookup f29 = some ⟨oc29, od29, .func (PySem.W.fnOf "where" "where" (defArgs s_where) (defBody s_where) (defScope s_where) .none kV29 dc29 pm29 an29 cd29 ct29), sl29⟩)
    (c29 : PySem.W.codeIn K cd29 "where" = true)
    (k29 : PySem.W.keepIn K (.ref f29) = true)
    (a30 : PySem.W.nsIn K mainGlobals "passes" = some (some (.ref f30)))
    (l30 : K.lookup f30 = some ⟨oc30, od30, .func (PySem.W.fnOf "passes" "passes" (defArgs s_passes) (defBody s_passes) (defScope s_passes) .none kV30 dc30 pm30 an30 cd30 ct30), sl30⟩)
    (c30 : PySem.W.codeIn K cd30 "passes" = true)
    (k30 : PySem.W.keepIn K (.ref f30) = true)
    (a31 : PySem.W.nsIn K mainGlobals "how_many_passes" = some (some (.ref f31)))
    (l31 : K.lookup f31 = some ⟨oc31, od31, .func (PySem.W.fnOf "how_many_passes" "how_many_passes" (defArgs s_how_many_passes) (defBody s_how_many_passes) (defScope s_how_many_passes) .none kV31 dc31 pm31 an31 cd31 ct31), sl31⟩)
    (c31 : PySem.W.codeIn K cd31 "how_many_passes" = true)
    (k31 : PySem.W.keepIn K (.ref f31) = true)
    (a32 : PySem.W.nsIn K mainGlobals "next_pass" = some (some (.ref f32)))
    (l32 : K.lookup f32 = some ⟨oc32, od32, .func (PySem.W.fnOf "next_pass" "next_pass" (defArgs s_next_pass) (defBody s_next_pass) (defScope s_next_pass) .none (.ref D32) dc32 pm32 an32 cd32 ct32), sl32⟩)
    (c32 : PySem.W.codeIn K cd32 "next_pass" = true)
    (k32 : PySem.W.keepIn K (.ref f32) = true)
    (n32_0 : PySem.W.nsIn K D32 "behind" = some (some (.int 0 tk32_0)))
    (a33 : PySem.W.nsIn K mainGlobals "_law_feed" = some (some (.ref f33)))
    (l33 : K.lookup f33 = some ⟨oc33, od33, .func (PySem.W.fnOf "_law_feed" "_law_feed" (defArgs s__law_feed) (defBody s__law_feed) (defScope s__law_feed) .none kV33 dc33 pm33 an33 cd33 ct33), sl33⟩)
    (c33 : PySem.W.codeIn K cd33 "_law_feed" = true)
    (k33 : PySem.W.keepIn K (.ref f33) = true)
    (a34 : PySem.W.nsIn K mainGlobals "_law_draw" = some (some (.ref f34)))
    (l34 : K.lookup f34 = some ⟨oc34, od34, .func (PySem.W.fnOf "_law_draw" "_law_draw" (defArgs s__law_draw) (defBody s__law_draw) (defScope s__law_draw) .none kV34 dc34 pm34 an34 cd34 ct34), sl34⟩)
    (c34 : PySem.W.codeIn K cd34 "_law_draw" = true)
    (k34 : PySem.W.keepIn K (.ref f34) = true)
    (a35 : PySem.W.nsIn K mainGlobals "_law_pick" = some (some (.ref f35)))
    (l35 : K.lookup f35 = some ⟨oc35, od35, .func (PySem.W.fnOf "_law_pick" "_law_pick" (defArgs s__law_pick) (defBody s__law_pick) (defScope s__law_pick) .none kV35 dc35 pm35 an35 cd35 ct35), sl35⟩)
    (c35 : PySem.W.codeIn K cd35 "_law_pick" = true)
    (k35 : PySem.W.keepIn K (.ref f35) = true)
    (a36 : PySem.W.nsIn K mainGlobals "_law_names" = some (some (.ref f36)))
    (l36 : K.lookup f36 = some ⟨oc36, od36, .func (PySem.W.fnOf "_law_names" "_law_names" (defArgs s__law_names) (defBody s__law_names) (defScope s__law_names) .none kV36 dc36 pm36 an36 cd36 ct36), sl36⟩)
    (c36 : PySem.W.codeIn K cd36 "_law_names" = true)
    (k36 : PySem.W.keepIn K (.ref f36) = true)
    (a37 : PySem.W.nsIn K mainGlobals "_law_signs" = some (some (.ref f37)))
    (l37 : K.lookup f37 = some ⟨oc37, od37, .func (PySem.W.fnOf "_law_signs" "_law_signs" (defArgs s__law_signs) (defBody s__law_signs) (defScope s__law_signs) .none kV37 dc37 pm37 an37 cd37 ct37), sl37⟩)
    (c37 : PySem.W.codeIn K cd37 "_law_signs" = true)
    (k37 : PySem.W.keepIn K (.ref f37) = true)
    (a38 : PySem.W.nsIn K mainGlobals "_law_table" = some (some (.ref f38)))
    (l38 : K.lookup f38 = some ⟨oc38, od38, .func (PySem.W.fnOf "_law_table" "_law_table" (defArgs s__law_table) (defBody s__law_table) (defScope s__law_table) .none kV38 dc38 pm38 an38 cd38 ct38), sl38⟩)
    (c38 : PySem.W.codeIn K cd38 "_law_table" = true)
    (k38 : PySem.W.keepIn K (.ref f38) = true)
    (a39 : PySem.W.nsIn K mainGlobals "_law_raw" = some (some (.ref f39)))
    (l39 : K.lookup f39 = some ⟨oc39, od39, .func (PySem.W.fnOf "_law_raw" "_law_raw" (defArgs s__law_raw) (defBody s__law_raw) (defScope s__law_raw) .none kV39 dc39 pm39 an39 cd39 ct39), sl39⟩)
    (c39 : PySem.W.codeIn K cd39 "_law_raw" = true)
    (k39 : PySem.W.keepIn K (.ref f39) = true)
    (a40 : PySem.W.nsIn K mainGlobals "_law_made" = some (some (.ref f40)))
    (l40 : K.lookup f40 = some ⟨oc40, od40, .func (PySem.W.fnOf "_law_made" "_law_made" (defArgs s__law_made) (defBody s__law_made) (defScope s__law_made) .none kV40 dc40 pm40 an40 cd40 ct40), sl40⟩)
    (c40 : PySem.W.codeIn K cd40 "_law_made" = true)
    (k40 : PySem.W.keepIn K (.ref f40) = true)
    (a41 : PySem.W.nsIn K mainGlobals "_law_far" = some (some (.ref f41)))
    (l41 : K.lookup f41 = some ⟨oc41, od41, .func (PySem.W.fnOf "_law_far" "_law_far" (defArgs s__law_far) (defBody s__law_far) (defScope s__law_far) .none kV41 dc41 pm41 an41 cd41 ct41), sl41⟩)
    (c41 : PySem.W.codeIn K cd41 "_law_far" = true)
    (k41 : PySem.W.keepIn K (.ref f41) = true)
    (a42 : PySem.W.nsIn K mainGlobals "_law_beats_with" = some (some (.ref f42)))
    (l42 : K.lookup f42 = some ⟨oc42, od42, .func (PySem.W.fnOf "_law_beats_with" "_law_beats_with" (defArgs s__law_beats_with) (defBody s__law_beats_with) (defScope s__law_beats_with) .none kV42 dc42 pm42 an42 cd42 ct42), sl42⟩)
    (c42 : PySem.W.codeIn K cd42 "_law_beats_with" = true)
    (k42 : PySem.W.keepIn K (.ref f42) = true)
    (a43 : PySem.W.nsIn K mainGlobals "_law_adds_up" = some (some (.ref f43)))
    (l43 : K.lookup f43 = some ⟨oc43, od43, .func (PySem.W.fnOf "_law_adds_up" "_law_adds_up" (defArgs s__law_adds_up) (defBody s__law_adds_up) (defScope s__law_adds_up) .none kV43 dc43 pm43 an43 cd43 ct43), sl43⟩)
    (c43 : PySem.W.codeIn K cd43 "_law_adds_up" = true)
    (k43 : PySem.W.keepIn K (.ref f43) = true)
    (a44 : PySem.W.nsIn K mainGlobals "_law_comes_again" = some (some (.ref f44)))
    (l44 : K.lookup f44 = some ⟨oc44, od44, .func (PySem.W.fnOf "_law_comes_again" "_law_comes_again" (defArgs s__law_comes_again) (defBody s__law_comes_again) (defScope s__law_comes_again) .none kV44 dc44 pm44 an44 cd44 ct44), sl44⟩)
    (c44 : PySem.W.codeIn K cd44 "_law_comes_again" = true)
    (k44 : PySem.W.keepIn K (.ref f44) = true)
    (a45 : PySem.W.nsIn K mainGlobals "law" = some (some (.ref f45)))
    (l45 : K.lookup f45 = some ⟨oc45, od45, .func (PySem.W.fnOf "law" "law" (defArgs s_law) (defBody s_law) (defScope s_law) .none kV45 dc45 pm45 an45 cd45 ct45), sl45⟩)
    (c45 : PySem.W.codeIn K cd45 "law" = true)
    (k45 : PySem.W.keepIn K (.ref f45) = true)
    (pg_Band : PySem.W.plainGet K C_Band Str.empty = true)
    (hd_Band : PySem.W.hasDictIn K C_Band = true)
    (po_Band : PySem.W.plainOver K C_Band = true)
    (sa_Band : PySem.W.findIn K (.ref C_Band) "__setattr__" = some (some (.builtin "object.__setattr__")))
    (ica_Band : PySem.W.findIn K (.ref C_Band) "__class__" = some (some (.builtin "object.__class__")))
    (icm_Band : PySem.W.mroIn K C_Band (.type "object") = some true)
    (mk_Band : PySem.W.makesIn K C_Band = true)
    (kc_Band : PySem.W.keepIn K (.ref C_Band) = true)
    (n_Band_own_name : PySem.W.findIn K (.ref C_Band) "own_name" = some none)
    (n_Band_size : PySem.W.findIn K (.ref C_Band) "size" = some none)
    (n_Band_speed : PySem.W.findIn K (.ref C_Band) "speed" = some none)
    (pg_Press : PySem.W.plainGet K C_Press Str.empty = true)
    (hd_Press : PySem.W.hasDictIn K C_Press = true)
    (po_Press : PySem.W.plainOver K C_Press = true)
    (sa_Press : PySem.W.findIn K (.ref C_Press) "__setattr__" = some (some (.builtin "object.__setattr__")))
    (ica_Press : PySem.W.findIn K (.ref C_Press) "__class__" = some (some (.builtin "object.__class__")))
    (icm_Press : PySem.W.mroIn K C_Press (.type "object") = some true)
    (mk_Press : PySem.W.makesIn K C_Press = true)
    (kc_Press : PySem.W.keepIn K (.ref C_Press) = true)
    (n_Press_upper : PySem.W.findIn K (.ref C_Press) "upper" = some none)
    (n_Press_lower : PySem.W.findIn K (.ref C_Press) "lower" = some none)
    (n_Press_turns : PySem.W.findIn K (.ref C_Press) "turns" = some none)
    (n_Press_marks : PySem.W.findIn K (.ref C_Press) "marks" = some none)
    (pg_Work : PySem.W.plainGet K C_Work Str.empty = true)
    (hd_Work : PySem.W.hasDictIn K C_Work = true)
    (po_Work : PySem.W.plainOver K C_Work = true)
    (sa_Work : PySem.W.findIn K (.ref C_Work) "__setattr__" = some (some (.builtin "object.__setattr__")))
    (ica_Work : PySem.W.findIn K (.ref C_Work) "__class__" = some (some (.builtin "object.__class__")))
    (icm_Work : PySem.W.mroIn K C_Work (.type "object") = some true)
    (mk_Work : PySem.W.makesIn K C_Work = true)
    (kc_Work : PySem.W.keepIn K (.ref C_Work) = true)
    (n_Work_marks : PySem.W.findIn K (.ref C_Work) "marks" = some none)
    (n_Work_rings : PySem.W.findIn K (.ref C_Work) "rings" = some none)
    (n_Work_stamps : PySem.W.findIn K (.ref C_Work) "stamps" = some none)
    (n_Work_spots : PySem.W.findIn K (.ref C_Work) "spots" = some none)
    (n_Work_numbers : PySem.W.findIn K (.ref C_Work) "numbers" = some none)
    (icn : PySem.W.specialIn K (.builtin "object.__class__") "__get__" = some (some (.builtin "getset_descriptor.__get__")))
    (ict : PySem.W.takesIn K (.builtin "object.__class__") = some true)
    (g_LETTERS : PySem.W.nsIn K mainGlobals "LETTERS" = some (some (.str "abcdefghijklmnopqrstuvwxyz" tk_LETTERS)))
    (g_LONGEST_NAME : PySem.W.nsIn K mainGlobals "LONGEST_NAME" = some (some (.int 8 tk_LONGEST_NAME)))
    (g_LEAST_SIGNS : PySem.W.nsIn K mainGlobals "LEAST_SIGNS" = some (some (.int 2 tk_LEAST_SIGNS)))
    (g_MOST_SIGNS : PySem.W.nsIn K mainGlobals "MOST_SIGNS" = some (some (.int 4 tk_MOST_SIGNS)))
    (g_MARKS : PySem.W.nsIn K mainGlobals "MARKS" = some (some (.str "x-" tk_MARKS)))
    (g_WORKS : PySem.W.nsIn K mainGlobals "WORKS" = some (some (.str "x" tk_WORKS)))
    (g_LONGEST_RHYTHM : PySem.W.nsIn K mainGlobals "LONGEST_RHYTHM" = some (some (.int 6 tk_LONGEST_RHYTHM)))
    (g_LONG : PySem.W.nsIn K mainGlobals "LONG" = some (some (.int 12 tk_LONG)))
    (g_FAR : PySem.W.nsIn K mainGlobals "FAR" = some (some (.int 1000000000000 tk_FAR)))
    (g_MOST_BANDS : PySem.W.nsIn K mainGlobals "MOST_BANDS" = some (some (.int 6 tk_MOST_BANDS)))
    (g_MOST_PLACES : PySem.W.nsIn K mainGlobals "MOST_PLACES" = some (some (.int 40 tk_MOST_PLACES)))
    (g_MOST_PRESSES : PySem.W.nsIn K mainGlobals "MOST_PRESSES" = some (some (.int 8 tk_MOST_PRESSES)))
    (g_ABOVE : PySem.W.nsIn K mainGlobals "ABOVE" = some (some (.str "above" tk_ABOVE)))
    (g_SIDES : PySem.W.nsIn K mainGlobals "SIDES" = some (some (.ref k_SIDES)))
    (lK_SIDES : K.lookup k_SIDES = some oK_SIDES)
    (cK_SIDES : oK_SIDES.cls = .type "tuple")
    (dK_SIDES : oK_SIDES.data = .seq (List.toArray [(.str "above" tk_SIDES_0), (.str "below" tk_SIDES_1)]) nK_SIDES)
    (z_len : PySem.W.nsIn K mainGlobals "len" = some none)
    (z_abs : PySem.W.nsIn K mainGlobals "abs" = some none)
    (z_range : PySem.W.nsIn K mainGlobals "range" = some none)
    (z_isinstance : PySem.W.nsIn K mainGlobals "isinstance" = some none)
    (z_list : PySem.W.nsIn K mainGlobals "list" = some none)
    (z_tuple : PySem.W.nsIn K mainGlobals "tuple" = some none)
    (z_int : PySem.W.nsIn K mainGlobals "int" = some none)
    (z_bool : PySem.W.nsIn K mainGlobals "bool" = some none)
    (z_str : PySem.W.nsIn K mainGlobals "str" = some none)
    (z_all : PySem.W.nsIn K mainGlobals "all" = some none)
    (z_zip : PySem.W.nsIn K mainGlobals "zip" = some none)
    (z_sorted : PySem.W.nsIn K mainGlobals "sorted" = some none)
    (z_sum : PySem.W.nsIn K mainGlobals "sum" = some none)
    (z_min : PySem.W.nsIn K mainGlobals "min" = some none)
    (z_enumerate : PySem.W.nsIn K mainGlobals "enumerate" = some none)
    : ∃ fd : FuncData, (∀ (s : Shared) (v : Value), BindsTo s fd ⟨[v], []⟩ [("_law_script", v)]) ∧ ∀ base : Heap, K.In base → base.Ns mainGlobals mg → FnOk l.prog w K mg base CX0 10 fa fd ["_law_script"] (spLaw K) := by
  have e := hfa.symm.trans (PySem.W.mg_of X G a45)
  cases e
  have F0 := fun_mk (st := s_is_whole) l0 c0 k0
  have b0 := F0.binds (ps := ["thing", "least", "most"]) fun _ _ _ _ _ _ us hl => match us, hl with | [_, _, _], _ => rfl
  have F1 := fun_mk (st := s_is_text_of) l1 c1 k1
  have b1 := F1.binds (ps := ["thing", "letters", "least", "most"]) fun _ _ _ _ _ _ us hl => match us, hl with | [_, _, _, _], _ => rfl
  have F2 := fun_mk (st := s_is_name) l2 c2 k2
  have b2 := F2.binds (ps := ["thing"]) fun _ _ _ _ _ _ us hl => match us, hl with | [_], _ => rfl
  have F3 := fun_mk (st := s_are_rising) l3 c3 k3
  have b3 := F3.binds (ps := ["thing", "least"]) fun _ _ _ _ _ _ us hl => match us, hl with | [_, _], _ => rfl
  have F4 := fun_mk (st := s_are_signs) l4 c4 k4
  have b4 := F4.binds (ps := ["thing"]) fun _ _ _ _ _ _ us hl => match us, hl with | [_], _ => rfl
  have F5 := fun_mk (st := s_is_place) l5 c5 k5
  have b5 := F5.binds (ps := ["thing"]) fun _ _ _ _ _ _ us hl => match us, hl with | [_], _ => rfl
  have F6 := fun_mk (st := s_is_rhythm) l6 c6 k6
  have b6 := F6.binds (ps := ["thing"]) fun _ _ _ _ _ _ us hl => match us, hl with | [_], _ => rfl
  have F7 := fun_mk (st := s_common_divisor) l7 c7 k7
  have b7 := F7.binds (ps := ["one", "other"]) fun _ _ _ _ _ _ us hl => match us, hl with | [_, _], _ => rfl
  have F8 := fun_mk (st := s_common_multiple) l8 c8 k8
  have b8 := F8.binds (ps := ["one", "other"]) fun _ _ _ _ _ _ us hl => match us, hl with | [_, _], _ => rfl
  have F9 := fun_mk (st := s_Band___init__) l9 c9 k9
  have b9 := Fun.kb (ps := ["self", "name", "long", "pace"]) (n := 3) (ks := ["pace"]) F9 fun _ _ _ _ _ _ us ws hl hl2 => match us, hl, ws, hl2 with | [_, _, _], _, [_], _ => rfl
  have F10 := fun_mk (st := s_Band_called) l10 c10 k10
  have b10 := F10.binds (ps := ["self"]) fun _ _ _ _ _ _ us hl => match us, hl with | [_], _ => rfl
  have F11 := fun_mk (st := s_Band_long) l11 c11 k11
  have b11 := F11.binds (ps := ["self"]) fun _ _ _ _ _ _ us hl => match us, hl with | [_], _ => rfl
  have F12 := fun_mk (st := s_Band_pace) l12 c12 k12
  have b12 := F12.binds (ps := ["self"]) fun _ _ _ _ _ _ us hl => match us, hl with | [_], _ => rfl
  have F13 := fun_mk (st := s_is_table) l13 c13 k13
  have b13 := F13.binds (ps := ["thing"]) fun _ _ _ _ _ _ us hl => match us, hl with | [_], _ => rfl
  have F14 := fun_mk (st := s_is_press_place) l14 c14 k14
  have b14 := F14.binds (ps := ["thing"]) fun _ _ _ _ _ _ us hl => match us, hl with | [_], _ => rfl
  have F15 := fun_mk (st := s_Press___init__) l15 c15 k15
  have b15 := Fun.kb (ps := ["self", "above", "below", "table", "rhythm"]) (n := 4) (ks := ["rhythm"]) F15 fun _ _ _ _ _ _ us ws hl hl2 => match us, hl, ws, hl2 with | [_, _, _, _], _, [_], _ => rfl
  have F16 := fun_mk (st := s_Press_above) l16 c16 k16
  have b16 := F16.binds (ps := ["self"]) fun _ _ _ _ _ _ us hl => match us, hl with | [_], _ => rfl
  have F17 := fun_mk (st := s_Press_below) l17 c17 k17
  have b17 := F17.binds (ps := ["self"]) fun _ _ _ _ _ _ us hl => match us, hl with | [_], _ => rfl
  have F18 := fun_mk (st := s_Press_table) l18 c18 k18
  have b18 := F18.binds (ps := ["self"]) fun _ _ _ _ _ _ us hl => match us, hl with | [_], _ => rfl
  have F19 := fun_mk (st := s_Press_rhythm) l19 c19 k19
  have b19 := F19.binds (ps := ["self"]) fun _ _ _ _ _ _ us hl => match us, hl with | [_], _ => rfl
  have F20 := fun_mk (st := s_Press_has_beat) l20 c20 k20
  have b20 := F20.binds (ps := ["self", "beat"]) fun _ _ _ _ _ _ us hl => match us, hl with | [_, _], _ => rfl
  have F21 := fun_mk (st := s_are_bands) l21 c21 k21
  have b21 := F21.binds (ps := ["thing"]) fun _ _ _ _ _ _ us hl => match us, hl with | [_], _ => rfl
  have F22 := fun_mk (st := s_fits) l22 c22 k22
  have b22 := F22.binds (ps := ["press", "signs", "longs"]) fun _ _ _ _ _ _ us hl => match us, hl with | [_, _, _], _ => rfl
  have F23 := fund_mk (st := s_Work___init__) (dvs := [(V.ref k_none)]) (kws := []) l23 c23 k23 (.inr ⟨(fun z => nomatch z), T23, oT23, _, nT23, rfl, lT23, dT23, (.cons rfl .nil)⟩) (.inl rfl)
  have b23 := FunD.bAll (ps := ["self", "signs", "bands", "presses"]) F23 (fun z => nomatch z) fun _ _ _ _ _ _ _ us its hl hl2 => match us, hl, its, hl2 with | [_, _, _, _], _, [_], _ => ⟨_, rfl, rfl⟩
  have F24 := fun_mk (st := s_Work_presses) l24 c24 k24
  have b24 := F24.binds (ps := ["self"]) fun _ _ _ _ _ _ us hl => match us, hl with | [_], _ => rfl
  have F25 := fun_mk (st := s_Work_has_place) l25 c25 k25
  have b25 := F25.binds (ps := ["self", "place"]) fun _ _ _ _ _ _ us hl => match us, hl with | [_, _], _ => rfl
  have F26 := fun_mk (st := s_Work_place_in) l26 c26 k26
  have b26 := F26.binds (ps := ["self", "place"]) fun _ _ _ _ _ _ us hl => match us, hl with | [_, _], _ => rfl
  have F27 := fun_mk (st := s_Work_band_of) l27 c27 k27
  have b27 := F27.binds (ps := ["self", "name"]) fun _ _ _ _ _ _ us hl => match us, hl with | [_, _], _ => rfl
  have F28 := fun_mk (st := s_need_press) l28 c28 k28
  have b28 := F28.binds (ps := ["work", "number"]) fun _ _ _ _ _ _ us hl => match us, hl with | [_, _], _ => rfl
  have F29 := fun_mk (st := s_where) l29 c29 k29
  have b29 := F29.binds (ps := ["work", "place", "beats"]) fun _ _ _ _ _ _ us hl => match us, hl with | [_, _, _], _ => rfl
  have F30 := fun_mk (st := s_passes) l30 c30 k30
  have b30 := F30.binds (ps := ["work", "press", "side", "place"]) fun _ _ _ _ _ _ us hl => match us, hl with | [_, _, _, _], _ => rfl
  have F31 := fun_mk (st := s_how_many_passes) l31 c31 k31
  have b31 := Fun.kb (ps := ["work", "press", "side", "place", "upto"]) (n := 4) (ks := ["upto"]) F31 fun _ _ _ _ _ _ us ws hl hl2 => match us, hl, ws, hl2 with | [_, _, _, _], _, [_], _ => rfl
  have F32 := fund_mk (st := s_next_pass) (dvs := []) (kws := [(("behind" : Str), V.int 0)]) l32 c32 k32 (.inl ⟨rfl, rfl⟩) (.inr ⟨D32, rfl, fun q hq => by
      simp only [List.mem_cons, List.not_mem_nil, or_false] at hq
      rcases hq with rfl
      · exact ⟨_, n32_0, ⟨_, rfl⟩⟩⟩)
  have b32 := FunD.kb0 (ps := ["work", "press", "side", "place", "behind"]) (n := 4) (ks := ["behind"]) F32 fun _ _ _ _ _ _ us ws hl hl2 => match us, hl, ws, hl2 with | [_, _, _, _], _, [_], _ => rfl
  have F33 := fun_mk (st := s__law_feed) l33 c33 k33
  have b33 := F33.binds (ps := ["_law_script"]) fun _ _ _ _ _ _ us hl => match us, hl with | [_], _ => rfl
  have F34 := fun_mk (st := s__law_draw) l34 c34 k34
  have b34 := F34.binds (ps := ["_law_feed_here", "_law_many"]) fun _ _ _ _ _ _ us hl => match us, hl with | [_, _], _ => rfl
  have F35 := fun_mk (st := s__law_pick) l35 c35 k35
  have b35 := F35.binds (ps := ["_law_feed_here", "_law_some"]) fun _ _ _ _ _ _ us hl => match us, hl with | [_, _], _ => rfl
  have F36 := fun_mk (st := s__law_names) l36 c36 k36
  have b36 := F36.binds (ps := ["_law_feed_here", "_law_many"]) fun _ _ _ _ _ _ us hl => match us, hl with | [_, _], _ => rfl
  have F37 := fun_mk (st := s__law_signs) l37 c37 k37
  have b37 := F37.binds (ps := ["_law_feed_here", "_law_many"]) fun _ _ _ _ _ _ us hl => match us, hl with | [_, _], _ => rfl
  have F38 := fun_mk (st := s__law_table) l38 c38 k38
  have b38 := F38.binds (ps := ["_law_feed_here", "_law_signs_here"]) fun _ _ _ _ _ _ us hl => match us, hl with | [_, _], _ => rfl
  have F39 := fun_mk (st := s__law_raw) l39 c39 k39
  have b39 := F39.binds (ps := ["_law_feed_here", "_law_sizes"]) fun _ _ _ _ _ _ us hl => match us, hl with | [_, _], _ => rfl
  have F40 := fun_mk (st := s__law_made) l40 c40 k40
  have b40 := F40.binds (ps := ["_law_raw_here"]) fun _ _ _ _ _ _ us hl => match us, hl with | [_], _ => rfl
  have F41 := fun_mk (st := s__law_far) l41 c41 k41
  have b41 := F41.binds (ps := ["_law_feed_here"]) fun _ _ _ _ _ _ us hl => match us, hl with | [_], _ => rfl
  have F42 := fun_mk (st := s__law_beats_with) l42 c42 k42
  have b42 := F42.binds (ps := ["_law_bar", "_law_last"]) fun _ _ _ _ _ _ us hl => match us, hl with | [_, _], _ => rfl
  have F43 := fun_mk (st := s__law_adds_up) l43 c43 k43
  have b43 := F43.binds (ps := ["_law_feed_here", "_law_raw_here", "_law_work", "_law_number", "_law_side"]) fun _ _ _ _ _ _ us hl => match us, hl with | [_, _, _, _, _], _ => rfl
  have F44 := fun_mk (st := s__law_comes_again) l44 c44 k44
  have b44 := F44.binds (ps := ["_law_feed_here", "_law_work", "_law_number", "_law_side", "_law_place"]) fun _ _ _ _ _ _ us hl => match us, hl with | [_, _, _, _, _], _ => rfl
  have F45 := fun_mk (st := s_law) l45 c45 k45
  have T : Txt K mg { f_is_whole := f0, d_is_whole := _, f_is_text_of := f1, d_is_text_of := _, f_is_name := f2, d_is_name := _, f_are_rising := f3, d_are_rising := _, f_are_signs := f4, d_are_signs := _, f_is_place := f5, d_is_place := _, f_is_rhythm := f6, d_is_rhythm := _, f_common_divisor := f7, d_common_divisor := _, f_common_multiple := f8, d_common_multiple := _, f_Band___init__ := f9, d_Band___init__ := _, f_Band_called := f10, d_Band_called := _, f_Band_long := f11, d_Band_long := _, f_Band_pace := f12, d_Band_pace := _, f_is_table := f13, d_is_table := _, f_is_press_place := f14, d_is_press_place := _, f_Press___init__ := f15, d_Press___init__ := _, f_Press_above := f16, d_Press_above := _, f_Press_below := f17, d_Press_below := _, f_Press_table := f18, d_Press_table := _, f_Press_rhythm := f19, d_Press_rhythm := _, f_Press_has_beat := f20, d_Press_has_beat := _, f_are_bands := f21, d_are_bands := _, f_fits := f22, d_fits := _, f_Work___init__ := f23, d_Work___init__ := _, f_Work_presses := f24, d_Work_presses := _, f_Work_has_place := f25, d_Work_has_place := _, f_Work_place_in := f26, d_Work_place_in := _, f_Work_band_of := f27, d_Work_band_of := _, f_need_press := f28, d_need_press := _, f_where := f29, d_where := _, f_passes := f30, d_passes := _, f_how_many_passes := f31, d_how_many_passes := _, f_next_pass := f32, d_next_pass := _, f__law_feed := f33, d__law_feed := _, f__law_draw := f34, d__law_draw := _, f__law_pick := f35, d__law_pick := _, f__law_names := f36, d__law_names := _, f__law_signs := f37, d__law_signs := _, f__law_table := f38, d__law_table := _, f__law_raw := f39, d__law_raw := _, f__law_made := f40, d__law_made := _, f__law_far := f41, d__law_far := _, f__law_beats_with := f42, d__law_beats_with := _, f__law_adds_up := f43, d__law_adds_up := _, f__law_comes_again := f44, d__law_comes_again := _, C_Band := C_Band, C_Press := C_Press, C_Work := C_Work, k_none := k_none, k_SIDES := k_SIDES } :=
    { F_is_whole := F0, b_is_whole := b0,
      m_is_whole := PySem.W.mg_of X G a0,
      F_is_text_of := F1, b_is_text_of := b1,
      m_is_text_of := PySem.W.mg_of X G a1,
      F_is_name := F2, b_is_name := b2,
      m_is_name := PySem.W.mg_of X G a2,
      F_are_rising := F3, b_are_rising := b3,
      m_are_rising := PySem.W.mg_of X G a3,
      F_are_signs := F4, b_are_signs := b4,
      m_are_signs := PySem.W.mg_of X G a4,
      F_is_place := F5, b_is_place := b5,
      m_is_place := PySem.W.mg_of X G a5,
      F_is_rhythm := F6, b_is_rhythm := b6,
      m_is_rhythm := PySem.W.mg_of X G a6,
      F_common_divisor := F7, b_common_divisor := b7,
      m_common_divisor := PySem.W.mg_of X G a7,
      F_common_multiple := F8, b_common_multiple := b8,
      m_common_multiple := PySem.W.mg_of X G a8,
      F_Band___init__ := F9, kb_Band___init__ := b9,
      F_Band_called := F10, b_Band_called := b10,
      M_Band_called := ⟨a10, i10, k10⟩,
      F_Band_long := F11, b_Band_long := b11,
      M_Band_long := ⟨a11, i11, k11⟩,
      F_Band_pace := F12, b_Band_pace := b12,
      M_Band_pace := ⟨a12, i12, k12⟩,
      F_is_table := F13, b_is_table := b13,
      m_is_table := PySem.W.mg_of X G a13,
      F_is_press_place := F14, b_is_press_place := b14,
      m_is_press_place := PySem.W.mg_of X G a14,
      F_Press___init__ := F15, kb_Press___init__ := b15,
      F_Press_above := F16, b_Press_above := b16,
      M_Press_above := ⟨a16, i16, k16⟩,
      F_Press_below := F17, b_Press_below := b17,
      M_Press_below := ⟨a17, i17, k17⟩,
      F_Press_table := F18, b_Press_table := b18,
      M_Press_table := ⟨a18, i18, k18⟩,
      F_Press_rhythm := F19, b_Press_rhythm := b19,
      M_Press_rhythm := ⟨a19, i19, k19⟩,
      F_Press_has_beat := F20, b_Press_has_beat := b20,
      M_Press_has_beat := ⟨a20, i20, k20⟩,
      F_are_bands := F21, b_are_bands := b21,
      m_are_bands := PySem.W.mg_of X G a21,
      F_fits := F22, b_fits := b22,
      m_fits := PySem.W.mg_of X G a22,
      F_Work___init__ := F23, b_Work___init__ := b23,
      F_Work_presses := F24, b_Work_presses := b24,
      M_Work_presses := ⟨a24, i24, k24⟩,
      F_Work_has_place := F25, b_Work_has_place := b25,
      M_Work_has_place := ⟨a25, i25, k25⟩,
      F_Work_place_in := F26, b_Work_place_in := b26,
      M_Work_place_in := ⟨a26, i26, k26⟩,
      F_Work_band_of := F27, b_Work_band_of := b27,
      M_Work_band_of := ⟨a27, i27, k27⟩,
      F_need_press := F28, b_need_press := b28,
      m_need_press := PySem.W.mg_of X G a28,
      F_where := F29, b_where := b29,
      m_where := PySem.W.mg_of X G a29,
      F_passes := F30, b_passes := b30,
      m_passes := PySem.W.mg_of X G a30,
      F_how_many_passes := F31, kb_how_many_passes := b31,
      m_how_many_passes := PySem.W.mg_of X G a31,
      F_next_pass := F32, kb_next_pass := b32,
      m_next_pass := PySem.W.mg_of X G a32,
      F__law_feed := F33, b__law_feed := b33,
      m__law_feed := PySem.W.mg_of X G a33,
      F__law_draw := F34, b__law_draw := b34,
      m__law_draw := PySem.W.mg_of X G a34,
      F__law_pick := F35, b__law_pick := b35,
      m__law_pick := PySem.W.mg_of X G a35,
      F__law_names := F36, b__law_names := b36,
      m__law_names := PySem.W.mg_of X G a36,
      F__law_signs := F37, b__law_signs := b37,
      m__law_signs := PySem.W.mg_of X G a37,
      F__law_table := F38, b__law_table := b38,
      m__law_table := PySem.W.mg_of X G a38,
      F__law_raw := F39, b__law_raw := b39,
      m__law_raw := PySem.W.mg_of X G a39,
      F__law_made := F40, b__law_made := b40,
      m__law_made := PySem.W.mg_of X G a40,
      F__law_far := F41, b__law_far := b41,
      m__law_far := PySem.W.mg_of X G a41,
      F__law_beats_with := F42, b__law_beats_with := b42,
      m__law_beats_with := PySem.W.mg_of X G a42,
      F__law_adds_up := F43, b__law_adds_up := b43,
      m__law_adds_up := PySem.W.mg_of X G a43,
      F__law_comes_again := F44, b__law_comes_again := b44,
      m__law_comes_again := PySem.W.mg_of X G a44,
      m_Band := PySem.W.mg_of X G aC_Band, i_Band := ⟨⟨pg_Band, hd_Band, po_Band, sa_Band⟩, ica_Band, icn, ict, icm_Band, kit_me⟩,
      mk_Band := ⟨mk_Band, a9, i9, kc_Band⟩,
      n_Band_own_name := n_Band_own_name, n_Band_size := n_Band_size, n_Band_speed := n_Band_speed,
      m_Press := PySem.W.mg_of X G aC_Press, i_Press := ⟨⟨pg_Press, hd_Press, po_Press, sa_Press⟩, ica_Press, icn, ict, icm_Press, kit_me⟩,
      mk_Press := ⟨mk_Press, a15, i15, kc_Press⟩,
      n_Press_upper := n_Press_upper, n_Press_lower := n_Press_lower, n_Press_turns := n_Press_turns, n_Press_marks := n_Press_marks,
      m_Work := PySem.W.mg_of X G aC_Work, i_Work := ⟨⟨pg_Work, hd_Work, po_Work, sa_Work⟩, ica_Work, icn, ict, icm_Work, kit_me⟩,
      mk_Work := ⟨mk_Work, a23, i23, kc_Work⟩,
      n_Work_marks := n_Work_marks, n_Work_rings := n_Work_rings, n_Work_stamps := n_Work_stamps, n_Work_spots := n_Work_spots, n_Work_numbers := n_Work_numbers,
      g_LETTERS := ⟨_, PySem.W.mg_of X G g_LETTERS, ⟨_, rfl⟩⟩,
      g_LONGEST_NAME := ⟨_, PySem.W.mg_of X G g_LONGEST_NAME, ⟨_, rfl⟩⟩,
      g_LEAST_SIGNS := ⟨_, PySem.W.mg_of X G g_LEAST_SIGNS, ⟨_, rfl⟩⟩,
      g_MOST_SIGNS := ⟨_, PySem.W.mg_of X G g_MOST_SIGNS, ⟨_, rfl⟩⟩,
      g_MARKS := ⟨_, PySem.W.mg_of X G g_MARKS, ⟨_, rfl⟩⟩,
      g_WORKS := ⟨_, PySem.W.mg_of X G g_WORKS, ⟨_, rfl⟩⟩,
      g_LONGEST_RHYTHM := ⟨_, PySem.W.mg_of X G g_LONGEST_RHYTHM, ⟨_, rfl⟩⟩,
      g_LONG := ⟨_, PySem.W.mg_of X G g_LONG, ⟨_, rfl⟩⟩,
      g_FAR := ⟨_, PySem.W.mg_of X G g_FAR, ⟨_, rfl⟩⟩,
      g_MOST_BANDS := ⟨_, PySem.W.mg_of X G g_MOST_BANDS, ⟨_, rfl⟩⟩,
      g_MOST_PLACES := ⟨_, PySem.W.mg_of X G g_MOST_PLACES, ⟨_, rfl⟩⟩,
      g_MOST_PRESSES := ⟨_, PySem.W.mg_of X G g_MOST_PRESSES, ⟨_, rfl⟩⟩,
      g_ABOVE := ⟨_, PySem.W.mg_of X G g_ABOVE, ⟨_, rfl⟩⟩,
      g_SIDES := ⟨_, PySem.W.mg_of X G g_SIDES, rfl⟩, q_SIDES := fun H => .inr ⟨oK_SIDES, _, nK_SIDES, lK_SIDES, cK_SIDES, dK_SIDES, (by show 2 ≤ sizeLine; exact small64 (by decide)), (.cons ⟨_, rfl⟩ (.cons ⟨_, rfl⟩ .nil))⟩,
      z_len := PySem.W.mg_none_of X G z_len,
      z_abs := PySem.W.mg_none_of X G z_abs,
      z_range := PySem.W.mg_none_of X G z_range,
      z_isinstance := PySem.W.mg_none_of X G z_isinstance,
      z_list := PySem.W.mg_none_of X G z_list,
      z_tuple := PySem.W.mg_none_of X G z_tuple,
      z_int := PySem.W.mg_none_of X G z_int,
      z_bool := PySem.W.mg_none_of X G z_bool,
      z_str := PySem.W.mg_none_of X G z_str,
      z_all := PySem.W.mg_none_of X G z_all,
      z_zip := PySem.W.mg_none_of X G z_zip,
      z_sorted := PySem.W.mg_none_of X G z_sorted,
      z_sum := PySem.W.mg_none_of X G z_sum,
      z_min := PySem.W.mg_none_of X G z_min,
      z_enumerate := PySem.W.mg_none_of X G z_enumerate }
  exact ⟨_, fun s v => .of_eq rfl, fun base _ _ => ok_law F45 T law_math⟩
end K05
set_option Elab.async false
set_option linter.all false
open PySem PySem.W PyProof.Rows
set_option maxRecDepth 100000 in
set_option maxHeartbeats 0 in
theorem PySem.Challenge.cw_bandprint_k05_whole_passes_add_up_holds : PySem.Challenge.rw_bandprint_k05_whole_passes_add_up.Holds := by
  w_on; o_law; k_head; (case hw => w_witness2)
  k_fill
  refine L2.walk_of (l := PySem.Challenge.rw_bandprint_k05_whole_passes_add_up) (n := 63) (k := 10) (x := "_law_script") (CX := fun _ => L2.CX0) (sp := fun w => Pu.spLaw _) rfl (by decide) rfl ⟨rfl, by decide, by decide⟩ (fun w h Y => PySem.W.kIn_of Y) ?F (fun _ _ a ns hl _ hS => ⟨a, ns, rfl, hS, hl, fun _ => rfl⟩) (fun _ _ _ _ _ h => h)
  case F =>
    intro w mg fa h KX G hmg
    refine' K05.all_mk KX G hmg ?aC_Band ?aC_Press ?aC_Work ?a0 ?l0 ?c0 ?k0 ?a1 ?l1 ?c1 ?k1 ?a2 ?l2 ?c2 ?k2 ?a3 ?l3 ?c3 ?k3 ?a4 ?l4 ?c4 ?k4 ?a5 ?l5 ?c5 ?k5 ?a6 ?l6 ?c6 ?k6 ?a7 ?l7 ?c7 ?k7 ?a8 ?l8 ?c8 ?k8 ?a9 ?i9 ?l9 ?c9 ?k9 ?a10 ?i10 ?l10 ?c10 ?k10 ?a11 ?i11 ?l11 ?c11 ?k11 ?a12 ?i12 ?l12 ?c12 ?k12 ?a13 ?l13 ?c13 ?k13 ?a14 ?l14 ?c14 ?k14 ?a15 ?i15 ?l15 ?c15 ?k15 ?a16 ?i16 ?l16 ?c16 ?k16 ?a17 ?i17 ?l17 ?c17 ?k17 ?a18 ?i18 ?l18 ?c18 ?k18 ?a19 ?i19 ?l19 ?c19 ?k19 ?a20 ?i20 ?l20 ?c20 ?k20 ?a21 ?l21 ?c21 ?k21 ?a22 ?l22 ?c22 ?k22 ?a23 ?i23 ?l23 ?c23 ?k23 ?lT23 ?dT23 ?a24 ?i24 ?l24 ?c24 ?k24 ?a25 ?i25 ?l25 ?c25 ?k25 ?a26 ?i26 ?l26 ?c26 ?k26 ?a27 ?i27 ?l27 ?c27 ?k27 ?a28 ?l28 ?c28 ?k28 ?a29 ?l29 ?c29 ?k29 ?a30 ?l30 ?c30 ?k30 ?a31 ?l31 ?c31 ?k31 ?a32 ?l32 ?c32 ?k32 ?n32_0 ?a33 ?l33 ?c33 ?k33 ?a34 ?l34 ?c34 ?k34 ?a35 ?l35 ?c35 ?k35 ?a36 ?l36 ?c36 ?k36 ?a37 ?l37 ?c37 ?k37 ?a38 ?l38 ?c38 ?k38 ?a39 ?l39 ?c39 ?k39 ?a40 ?l40 ?c40 ?k40 ?a41 ?l41 ?c41 ?k41 ?a42 ?l42 ?c42 ?k42 ?a43 ?l43 ?c43 ?k43 ?a44 ?l44 ?c44 ?k44 ?a45 ?l45 ?c45 ?k45 ?pg_Band ?hd_Band ?po_Band ?sa_Band ?ica_Band ?icm_Band ?mk_Band ?kc_Band ?n_Band_own_name ?n_Band_size ?n_Band_speed ?pg_Press ?hd_Press ?po_Press ?sa_Press ?ica_Press ?icm_Press ?mk_Press ?kc_Press ?n_Press_upper ?n_Press_lower ?n_Press_turns ?n_Press_marks ?pg_Work ?hd_Work ?po_Work ?sa_Work ?ica_Work ?icm_Work ?mk_Work ?kc_Work ?n_Work_marks ?n_Work_rings ?n_Work_stamps ?n_Work_spots ?n_Work_numbers ?icn ?ict ?g_LETTERS ?g_LONGEST_NAME ?g_LEAST_SIGNS ?g_MOST_SIGNS ?g_MARKS ?g_WORKS ?g_LONGEST_RHYTHM ?g_LONG ?g_FAR ?g_MOST_BANDS ?g_MOST_PLACES ?g_MOST_PRESSES ?g_ABOVE ?g_SIDES ?lK_SIDES ?cK_SIDES ?dK_SIDES ?z_len ?z_abs ?z_range ?z_isinstance ?z_list ?z_tuple ?z_int ?z_bool ?z_str ?z_all ?z_zip ?z_sorted ?z_sum ?z_min ?z_enumerate
    (case aC_Band => k_is); (case aC_Press => k_is); (case aC_Work => k_is); (case a0 => k_is); (case l0 => k_is); (case c0 => k_is)
    (case k0 => k_is); (case a1 => k_is); (case l1 => k_is); (case c1 => k_is); (case k1 => k_is); (case a2 => k_is)
    (case l2 => k_is); (case c2 => k_is); (case k2 => k_is); (case a3 => k_is); (case l3 => k_is); (case c3 => k_is)
    (case k3 => k_is); (case a4 => k_is); (case l4 => k_is); (case c4 => k_is); (case k4 => k_is); (case a5 => k_is)
    (case l5 => k_is); (case c5 => k_is); (case k5 => k_is); (case a6 => k_is); (case l6 => k_is); (case c6 => k_is)
    (case k6 => k_is); (case a7 => k_is); (case l7 => k_is); (case c7 => k_is); (case k7 => k_is); (case a8 => k_is)
    (case l8 => k_is); (case c8 => k_is); (case k8 => k_is); (case a9 => k_is); (case i9 => k_is); (case l9 => k_is)
    (case c9 => k_is); (case k9 => k_is); (case a10 => k_is); (case i10 => k_is); (case l10 => k_is); (case c10 => k_is)
    (case k10 => k_is); (case a11 => k_is); (case i11 => k_is); (case l11 => k_is); (case c11 => k_is); (case k11 => k_is)
    (case a12 => k_is); (case i12 => k_is); (case l12 => k_is); (case c12 => k_is); (case k12 => k_is); (case a13 => k_is)
    (case l13 => k_is); (case c13 => k_is); (case k13 => k_is); (case a14 => k_is); (case l14 => k_is); (case c14 => k_is)
    (case k14 => k_is); (case a15 => k_is); (case i15 => k_is); (case l15 => k_is); (case c15 => k_is); (case k15 => k_is)
    (case a16 => k_is); (case i16 => k_is); (case l16 => k_is); (case c16 => k_is); (case k16 => k_is); (case a17 => k_is)
    (case i17 => k_is); (case l17 => k_is); (case c17 => k_is); (case k17 => k_is); (case a18 => k_is); (case i18 => k_is)
    (case l18 => k_is); (case c18 => k_is); (case k18 => k_is); (case a19 => k_is); (case i19 => k_is); (case l19 => k_is)
    (case c19 => k_is); (case k19 => k_is); (case a20 => k_is); (case i20 => k_is); (case l20 => k_is); (case c20 => k_is)
    (case k20 => k_is); (case a21 => k_is); (case l21 => k_is); (case c21 => k_is); (case k21 => k_is); (case a22 => k_is)
    (case l22 => k_is); (case c22 => k_is); (case k22 => k_is); (case a23 => k_is); (case i23 => k_is); (case l23 => k_is)
    (case c23 => k_is); (case k23 => k_is); (case lT23 => k_is); (case dT23 => rfl); (case a24 => k_is); (case i24 => k_is)
    (case l24 => k_is); (case c24 => k_is); (case k24 => k_is); (case a25 => k_is); (case i25 => k_is); (case l25 => k_is)
    (case c25 => k_is); (case k25 => k_is); (case a26 => k_is); (case i26 => k_is); (case l26 => k_is); (case c26 => k_is)
    (case k26 => k_is); (case a27 => k_is); (case i27 => k_is); (case l27 => k_is); (case c27 => k_is); (case k27 => k_is)
    (case a28 => k_is); (case l28 => k_is); (case c28 => k_is); (case k28 => k_is); (case a29 => k_is); (case l29 => k_is)
    (case c29 => k_is); (case k29 => k_is); (case a30 => k_is); (case l30 => k_is); (case c30 => k_is); (case k30 => k_is)
    (case a31 => k_is); (case l31 => k_is); (case c31 => k_is); (case k31 => k_is); (case a32 => k_is); (case l32 => k_is)
    (case c32 => k_is); (case k32 => k_is); (case n32_0 => k_is); (case a33 => k_is); (case l33 => k_is); (case c33 => k_is)
    (case k33 => k_is); (case a34 => k_is); (case l34 => k_is); (case c34 => k_is); (case k34 => k_is); (case a35 => k_is)
    (case l35 => k_is); (case c35 => k_is); (case k35 => k_is); (case a36 => k_is); (case l36 => k_is); (case c36 => k_is)
    (case k36 => k_is); (case a37 => k_is); (case l37 => k_is); (case c37 => k_is); (case k37 => k_is); (case a38 => k_is)
    (case l38 => k_is); (case c38 => k_is); (case k38 => k_is); (case a39 => k_is); (case l39 => k_is); (case c39 => k_is)
    (case k39 => k_is); (case a40 => k_is); (case l40 => k_is); (case c40 => k_is); (case k40 => k_is); (case a41 => k_is)
    (case l41 => k_is); (case c41 => k_is); (case k41 => k_is); (case a42 => k_is); (case l42 => k_is); (case c42 => k_is)
    (case k42 => k_is); (case a43 => k_is); (case l43 => k_is); (case c43 => k_is); (case k43 => k_is); (case a44 => k_is)
    (case l44 => k_is); (case c44 => k_is); (case k44 => k_is); (case a45 => k_is); (case l45 => k_is); (case c45 => k_is)
    (case k45 => k_is); (case pg_Band => k_is); (case hd_Band => k_is); (case po_Band => k_is); (case sa_Band => k_is); (case ica_Band => k_is)
    (case icm_Band => k_is); (case mk_Band => k_is); (case kc_Band => k_is); (case n_Band_own_name => k_is); (case n_Band_size => k_is); (case n_Band_speed => k_is)
    (case pg_Press => k_is); (case hd_Press => k_is); (case po_Press => k_is); (case sa_Press => k_is); (case ica_Press => k_is); (case icm_Press => k_is)
    (case mk_Press => k_is); (case kc_Press => k_is); (case n_Press_upper => k_is); (case n_Press_lower => k_is); (case n_Press_turns => k_is); (case n_Press_marks => k_is)
    (case pg_Work => k_is); (case hd_Work => k_is); (case po_Work => k_is); (case sa_Work => k_is); (case ica_Work => k_is); (case icm_Work => k_is)
    (case mk_Work => k_is); (case kc_Work => k_is); (case n_Work_marks => k_is); (case n_Work_rings => k_is); (case n_Work_stamps => k_is); (case n_Work_spots => k_is)
    (case n_Work_numbers => k_is); (case icn => k_is); (case ict => k_is); (case g_LETTERS => k_is); (case g_LONGEST_NAME => k_is); (case g_LEAST_SIGNS => k_is)
    (case g_MOST_SIGNS => k_is); (case g_MARKS => k_is); (case g_WORKS => k_is); (case g_LONGEST_RHYTHM => k_is); (case g_LONG => k_is); (case g_FAR => k_is)
    (case g_MOST_BANDS => k_is); (case g_MOST_PLACES => k_is); (case g_MOST_PRESSES => k_is); (case g_ABOVE => k_is); (case g_SIDES => k_is); (case lK_SIDES => k_is)
    (case cK_SIDES => rfl); (case dK_SIDES => rfl); (case z_len => k_is); (case z_abs => k_is); (case z_range => k_is); (case z_isinstance => k_is)
    (case z_list => k_is); (case z_tuple => k_is); (case z_int => k_is); (case z_bool => k_is); (case z_str => k_is); (case z_all => k_is)
    (case z_zip => k_is); (case z_sorted => k_is); (case z_sum => k_is); (case z_min => k_is); (case z_enumerate => k_is)
