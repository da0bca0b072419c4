import PyProof.Rows.All
import Wide.All
import OpenK.AllK
import Wide.FinOn
import KE.GoesMore
import HandS.ForMost
import KE.GoesEnumKw
import HandS.Wide
import HandS.Style
import HandS.Defaults
import HandS.Flow
import KE.KEqSeq
import HandS.Codes
import PySem.Challenge.RW_bandprint_k78_numbers_that_leave_rests
set_option Elab.async false
set_option linter.all false
set_option maxRecDepth 100000
set_option maxHeartbeats 2000000
namespace Zs
open PySem
open PySem.Sem (wp)
/-- a zip made with strict = b -/
abbrev IsZipB (b : Bool) (h : Heap) (z TI TO : Addr) (f0 : Value) : Prop :=
  h.get? z = some { cls := .type "zip", dict := none, data := .fields #[f0, .bool false, .bool b, .ref TI, .ref TO], slots := #[] }
section
variable {prog : Program} {w : World} {A : Around} {E : Value → Shared → Prop} {s : Shared}
variable {it : Addr} {fp : List Addr} {n i : Nat} {P : Nat → Value → Prop} {St : Nat → Heap → Prop}
theorem draw_item {Q : Option Value → Shared → Prop} (D : Draws prog w A it fp n P St) (hi : i < n)
    (st : St i s.heap)
    (hQ : ∀ x h' tk, P i x → St (i + 1) h' → Heap.SameBut it s.heap h' →
      Q (some x) { s with heap := h', toks := tk }) :
    wpAny (model prog w) A (Builtin.SmallTypes.nextOrEnd (.ref it)) Q E s := by
  unfold Builtin.SmallTypes.nextOrEnd
  exact wpAny_bind (wpAny_attempt (D.item i s _ _ hi st
    fun x h' tk p st' sb => wpAny_pure (hQ x h' tk p st' sb)))
theorem draw_done {Q : Option Value → Shared → Prop} (D : Draws prog w A it fp n P St)
    (st : St n s.heap) (hQ : ∀ h', Heap.ExtBut it s.heap h' → Q none { s with heap := h' }) :
    wpAny (model prog w) A (Builtin.SmallTypes.nextOrEnd (.ref it)) Q E s := by
  unfold Builtin.SmallTypes.nextOrEnd
  refine wpAny_bind (wpAny_attempt (D.done s _ _ st fun h' e hk he => ?_))
  obtain ⟨o, ho, hc⟩ := he
  refine wpAny_bind (wpAny_isInstance (T := "StopIteration") (b := true)
    ⟨o, ho, hc⟩ isSubtype_stop ?_)
  exact wpAny_pure (hQ h' hk)
theorem stop_raises {α : Type} {Q : α → Shared → Prop} (hh : A.handled = none)
    (hE : ∀ h' e, (∀ c o, s.heap.get? c = some o → h'.get? c = some o) →
      (∃ o, h'.get? e = some o ∧ o.cls = .type "StopIteration") → E (.ref e) { s with heap := h' }) :
    wpAny (model prog w) A (Builtin.SmallTypes.stopIteration (α := α)) Q E s := by
  unfold Builtin.SmallTypes.stopIteration
  refine wpAny_bind ?_
  simp only [newExc, newTuple]
  refine wpAny_bind (wpAny_newObj_type ?_ (by size_fits))
  refine wpAny_bind (m := firstArgMember _ _) (wpAny_of_eq (a := Value.none) (by first | rfl | (simp only [firstArgMember]; rfl)) ?_)
  refine wpAny_newObj_type ?_ (by size_fits)
  simp only [raiseNew]
  refine wpAny_bind (wpAny_handled ?_)
  rw [hh]
  refine wpAny_bind (wpAny_pure (wpAny_throw ?_))
  exact hE _ _ (fun c o e => Heap.get?_push_of_some _ (Heap.get?_push_of_some _ e))
    ⟨_, Heap.get?_push_size _ rfl, rfl⟩
end
section
variable {prog : Program} {w : World} {A : Around} {E : Value → Shared → Prop} {s : Shared} {z TI TO i1 i2 : Addr} {fp1 fp2 : List Addr}
  {n1 n2 i : Nat} {P1 P2 : Nat → Value → Prop} {St1 St2 : Nat → Heap → Prop} {a1 a2 : Value}
theorem next_item {Q : Value → Shared → Prop} (S : ZipSep2 z TI TO i1 i2 fp1 fp2)
    (D1 : Draws prog w A i1 fp1 n1 P1 St1) (D2 : Draws prog w A i2 fp2 n2 P2 St2)
    (hz : IsZipB true s.heap z TI TO .none) (hTI : IsTupOf2 s.heap TI (.ref i1) (.ref i2))
    (hTO : IsTupOf2 s.heap TO a1 a2) (st1 : St1 i s.heap) (st2 : St2 i s.heap) (l1 : i < n1) (l2 : i < n2)
    (hQ : ∀ x1 x2 h' tk, P1 i x1 → P2 i x2 → IsZipB true h' z TI TO (rawInt s.heap.objs.size) →
      IsTupOf2 h' TO x1 x2 → St1 (i + 1) h' → St2 (i + 1) h' → IsTupOf2 h' s.heap.objs.size x1 x2 →
      h'.objs.size = s.heap.objs.size + 1 →
      (∀ c o, c ≠ z → c ≠ TO → c ≠ i1 → c ≠ i2 → s.heap.get? c = some o → h'.get? c = some o) →
      Q (.ref s.heap.objs.size) { s with heap := h', toks := tk }) :
    wpAny (model prog w) A (Builtin.«zip.__next__» ⟨[.ref z], []⟩)
      (fun fin s' => ∃ v, fin = .done (.ret v) ∧ Q v s') E s := by
  obtain ⟨hp, g, d, tk0, os⟩ := s
  show wpAny _ _ (field (.ref z) 2 >>= _) _ _ _
  refine wpAny_bind (wpAny_field hz rfl (x := .bool true) rfl ?_)
  show wpAny _ _ (field (.ref z) 3 >>= _) _ _ _
  refine wpAny_bind (wpAny_field hz rfl (x := .ref TI) rfl ?_)
  refine wpAny_bind (wpAny_seqItems hTI rfl ?_)
  show wpAny _ _ (Builtin.SmallTypes.ownedTupleIsFree (.ref z) >>= _) _ _ _
  refine wpAny_bind ?_
  unfold Builtin.SmallTypes.ownedTupleIsFree
  refine wpAny_bind (wpAny_field hz rfl (x := .none) rfl (wpAny_pure ?_))
  simp only [if_true]
  refine wpAny_bind (wpAny_rule ?_)
  refine wpAny_bind (wpAny_field hz rfl (x := .ref TO) rfl ?_)
  refine wpAny_bind (wpAny_setField_rec hz (by simp) fun g0 hz0 s0 => ?_)
  replace hz0 : IsZipB true g0 z TI TO .ellipsis := hz0
  replace s0 : Heap.SameBut z hp g0 := s0
  refine wpAny_bind ?_
  simp only [List.zipIdx_cons, List.zipIdx_nil, List.forIn_cons, List.forIn_nil]
  refine wpAny_bind (wpAny_bind (wpAny_onRaise ?_))
  show wpAny _ _ (Builtin.SmallTypes.nextOrEnd (.ref i1)) _ _ ⟨g0, g, d, tk0, os⟩
  refine draw_item D1 l1 (D1.over st1 s0 S.zf1) fun x1 p1 tk1 hx1 sn1 hp1 => ?_
  replace hp1 : Heap.SameBut i1 g0 p1 := hp1
  have u1 : IsTupOf2 p1 TO a1 a2 := hp1.extBut _ _ S.Ti1 (s0.extBut _ _ S.TOz hTO)
  refine wpAny_bind (wpAny_seqItems (s := ⟨p1, g, d, tk1, os⟩) u1 rfl ?_)
  refine wpAny_bind (updateSeq_IsTupOf2 (s := ⟨p1, g, d, tk1, os⟩) u1 fun g1 t1 s1 => ?_)
  replace t1 : IsTupOf2 g1 TO x1 a2 := t1
  replace s1 : Heap.SameBut TO p1 g1 := s1
  refine wpAny_bind (wpAny_letGo (wpAny_pure ?_))
  refine wpAny_bind (wpAny_bind (wpAny_onRaise ?_))
  show wpAny _ _ (Builtin.SmallTypes.nextOrEnd (.ref i2)) _ _ ⟨g1, g, d, tk1, os⟩
  refine draw_item D2 l2 (D2.over (D2.over (D2.over st2 s0 S.zf2) hp1 S.sep1_2) s1 S.Tf2) fun x2 p2 tk2 hx2 sn2 hp2 => ?_
  replace hp2 : Heap.SameBut i2 g1 p2 := hp2
  have u2 : IsTupOf2 p2 TO x1 a2 := hp2.extBut _ _ S.Ti2 t1
  refine wpAny_bind (wpAny_seqItems (s := ⟨p2, g, d, tk2, os⟩) u2 rfl ?_)
  refine wpAny_bind (updateSeq_IsTupOf2 (s := ⟨p2, g, d, tk2, os⟩) u2 fun g2 t2 s2 => ?_)
  replace t2 : IsTupOf2 g2 TO x1 x2 := t2
  replace s2 : Heap.SameBut TO p2 g2 := s2
  refine wpAny_bind (wpAny_letGo (wpAny_pure (wpAny_pure ?_)))
  refine wpAny_bind (wpAny_seqItems (s := ⟨g2, g, d, tk2, os⟩) t2 rfl ?_)
  refine wpAny_bind (wpAny_newTuple ?_)
  have hsz : g2.objs.size = hp.objs.size := by rw [s2.1, hp2.1, s1.1, hp1.1, s0.1]
  have z2 : IsZipB true g2 z TI TO .ellipsis := s2.extBut _ _ S.TOz.symm (hp2.extBut _ _ S.zi2 (s1.extBut _ _ S.TOz.symm (hp1.extBut _ _ S.zi1 hz0)))
  have k2 : ∀ c o, c ≠ z → c ≠ TO → c ≠ i1 → c ≠ i2 → hp.get? c = some o → g2.get? c = some o := fun c o c1 c2 c3 c4 e =>
    s2.extBut _ _ c2 (hp2.extBut _ _ c4 (s1.extBut _ _ c2 (hp1.extBut _ _ c3 (s0.extBut _ _ c1 e))))
  have m1 : St1 (i + 1) g2 := D1.over (D1.over (D1.over sn1 s1 S.Tf1) hp2 S.sep2_1) s2 S.Tf1
  have m2 : St2 (i + 1) g2 := D2.over sn2 s2 S.Tf2
  have hzlt : z < g2.objs.size := Heap.lt_size z2
  show wpAny _ _ (Builtin.SmallTypes.ownedTupleHandOut (.ref z) (.ref g2.objs.size) >>= _) _ _ _
  refine wpAny_bind ?_
  unfold Builtin.SmallTypes.ownedTupleHandOut
  have z3 : IsZipB true (g2.push { cls := .type "tuple", data := .seq #[x1, x2] }) z TI TO .ellipsis := Heap.get?_push_of_some _ z2
  refine wpAny_bind (wpAny_setField_rec z3 (by simp) fun g4 z4 s4 => ?_)
  replace z4 : IsZipB true g4 z TI TO (rawInt g2.objs.size) := z4
  refine wpAny_setField_rec z4 (by simp) fun g5 z5 s5 => ?_
  replace z5 : IsZipB true g5 z TI TO (rawInt g2.objs.size) := z5
  have up : ∀ c o, c ≠ z → g2.get? c = some o → g5.get? c = some o := fun c o c1 e => s5.extBut _ _ c1 (s4.extBut _ _ c1 (Heap.get?_push_of_some _ e))
  have t5 : IsTupOf2 g5 g2.objs.size x1 x2 := s5.extBut _ _ (Nat.ne_of_gt hzlt) (s4.extBut _ _ (Nat.ne_of_gt hzlt) (Heap.get?_push_size _ rfl))
  have n5 : g5.objs.size = g2.objs.size + 1 := by rw [s5.1, s4.1, Heap.size_push]
  rw [hsz] at z5 t5 n5
  refine wpAny_pure ⟨_, rfl, ?_⟩
  show Q (.ref g2.objs.size) _
  rw [hsz]
  exact hQ x1 x2 g5 tk2 hx1 hx2 z5 (up _ _ S.TOz t2) (D1.frame _ _ _ m1 fun b hb o e => up b o (fun q => S.zf1 (q ▸ hb)) e)
    (D2.frame _ _ _ m2 fun b hb o e => up b o (fun q => S.zf2 (q ▸ hb)) e) t5 n5 fun c o c1 c2 c3 c4 e => up c o c1 (k2 c o c1 c2 c3 c4 e)
theorem next_end {Q : Fin → Shared → Prop} (hh : A.handled = none) (S : ZipSep2 z TI TO i1 i2 fp1 fp2)
    (D1 : Draws prog w A i1 fp1 n1 P1 St1) (D2 : Draws prog w A i2 fp2 n2 P2 St2)
    (hz : IsZipB true s.heap z TI TO .none) (hTI : IsTupOf2 s.heap TI (.ref i1) (.ref i2))
    (st1 : St1 n1 s.heap) (st2 : St2 n2 s.heap)
    (hE : ∀ h' e, (∀ c o, c ≠ z → c ≠ TO → c ≠ i1 → c ≠ i2 → s.heap.get? c = some o → h'.get? c = some o) →
      (∃ o, h'.get? e = some o ∧ o.cls = .type "StopIteration") → E (.ref e) { s with heap := h' }) :
    wpAny (model prog w) A (Builtin.«zip.__next__» ⟨[.ref z], []⟩) Q E s := by
  obtain ⟨hp, g, d, tk0, os⟩ := s
  show wpAny _ _ (field (.ref z) 2 >>= _) _ _ _
  refine wpAny_bind (wpAny_field hz rfl (x := .bool true) rfl ?_)
  show wpAny _ _ (field (.ref z) 3 >>= _) _ _ _
  refine wpAny_bind (wpAny_field hz rfl (x := .ref TI) rfl ?_)
  refine wpAny_bind (wpAny_seqItems hTI rfl ?_)
  show wpAny _ _ (Builtin.SmallTypes.ownedTupleIsFree (.ref z) >>= _) _ _ _
  refine wpAny_bind ?_
  unfold Builtin.SmallTypes.ownedTupleIsFree
  refine wpAny_bind (wpAny_field hz rfl (x := .none) rfl (wpAny_pure ?_))
  simp only [if_true]
  refine wpAny_bind (wpAny_rule ?_)
  refine wpAny_bind (wpAny_field hz rfl (x := .ref TO) rfl ?_)
  refine wpAny_bind (wpAny_setField_rec hz (by simp) fun g0 hz0 s0 => ?_)
  replace hz0 : IsZipB true g0 z TI TO .ellipsis := hz0
  replace s0 : Heap.SameBut z hp g0 := s0
  refine wpAny_bind ?_
  simp only [List.zipIdx_cons, List.zipIdx_nil, List.forIn_cons, List.forIn_nil]
  refine wpAny_bind (wpAny_bind (wpAny_onRaise ?_))
  show wpAny _ _ (Builtin.SmallTypes.nextOrEnd (.ref i1)) _ _ ⟨g0, g, d, tk0, os⟩
  refine draw_done D1 (D1.over st1 s0 S.zf1) fun q1 hq1 => ?_
  replace hq1 : Heap.ExtBut i1 g0 q1 := hq1
  have hzq : IsZipB true q1 z TI TO .ellipsis := hq1 _ _ S.zi1 hz0
  refine wpAny_bind (wpAny_setField_rec (s := ⟨q1, g, d, tk0, os⟩) hzq (by simp) fun q2 hz2 s2 => ?_)
  replace s2 : Heap.SameBut z q1 q2 := s2
  refine wpAny_bind ?_
  show wpAny _ _ (_ >>= _) _ _ _
  refine wpAny_bind ?_
  simp only [List.drop_succ_cons, List.drop_zero, List.zipIdx_cons, List.zipIdx_nil, List.forIn_cons, List.forIn_nil]
  have st2' : St2 n2 q2 := D2.frame _ _ _ st2 fun b hb o e =>
    s2.extBut _ _ (fun q => S.zf2 (q ▸ hb)) (hq1 _ _ (fun q => S.sep1_2 (q ▸ hb)) (s0.extBut _ _ (fun q => S.zf2 (q ▸ hb)) e))
  refine wpAny_bind (wpAny_bind (draw_done (s := ⟨q2, g, d, tk0, os⟩) D2 st2' fun q3 hq3 => ?_))
  replace hq3 : Heap.ExtBut i2 q2 q3 := hq3
  refine wpAny_pure (wpAny_pure (wpAny_bind (wpAny_rule ?_)))
  refine stop_raises hh fun q4 e k4 he => ?_
  exact hE q4 e (fun c o c1 c2 c3 c4 x => k4 _ _ (hq3 _ _ c4 (s2.extBut _ _ c1 (hq1 _ _ c3 (s0.extBut _ _ c1 x))))) he
theorem pyNext_item {Q : Option Value → Shared → Prop} (S : ZipSep2 z TI TO i1 i2 fp1 fp2)
    (D1 : Draws prog w A.in1 i1 fp1 n1 P1 St1) (D2 : Draws prog w A.in1 i2 fp2 n2 P2 St2)
    (hz : IsZipB true s.heap z TI TO .none) (hTI : IsTupOf2 s.heap TI (.ref i1) (.ref i2))
    (hTO : IsTupOf2 s.heap TO a1 a2) (st1 : St1 i s.heap) (st2 : St2 i s.heap) (l1 : i < n1) (l2 : i < n2)
    (hQ : ∀ x1 x2 h' tk, P1 i x1 → P2 i x2 → IsZipB true h' z TI TO (rawInt s.heap.objs.size) →
      IsTupOf2 h' TO x1 x2 → St1 (i + 1) h' → St2 (i + 1) h' → IsTupOf2 h' s.heap.objs.size x1 x2 →
      h'.objs.size = s.heap.objs.size + 1 →
      (∀ c o, c ≠ z → c ≠ TO → c ≠ i1 → c ≠ i2 → s.heap.get? c = some o → h'.get? c = some o) →
      Q (some (.ref s.heap.objs.size)) { s with heap := h', toks := tk }) :
    wpAny (model prog w) A (pyNext (.ref z)) Q E s := by
  have hT : s.TypeIs (.ref z) "zip" := ⟨_, hz, rfl⟩
  unfold pyNext
  refine wpAny_bind (wpAny_attempt (wpAny_callSpecial?_slot (name := Str.ofString "__next__") hT F.slot_zip_next
    (wpAny_call_entry F.slot_zip_next hT F.entry_zip_next ?_ (F.args_zip_next_1 _))))
  exact next_item S D1 D2 hz hTI hTO st1 st2 l1 l2
    fun x1 x2 h' tk p1 p2 b1 b2 b3 b4 b5 b6 b7 => wpAny_pure (hQ x1 x2 h' tk p1 p2 b1 b2 b3 b4 b5 b6 b7)
theorem pyNext_end {Q : Option Value → Shared → Prop} (hh : A.handled = none) (S : ZipSep2 z TI TO i1 i2 fp1 fp2)
    (D1 : Draws prog w A.in1 i1 fp1 n1 P1 St1) (D2 : Draws prog w A.in1 i2 fp2 n2 P2 St2)
    (hz : IsZipB true s.heap z TI TO .none) (hTI : IsTupOf2 s.heap TI (.ref i1) (.ref i2))
    (st1 : St1 n1 s.heap) (st2 : St2 n2 s.heap)
    (hQ : ∀ h', (∀ c o, c ≠ z → c ≠ TO → c ≠ i1 → c ≠ i2 → s.heap.get? c = some o → h'.get? c = some o) →
      Q none { s with heap := h' }) :
    wpAny (model prog w) A (pyNext (.ref z)) Q E s := by
  have hT : s.TypeIs (.ref z) "zip" := ⟨_, hz, rfl⟩
  unfold pyNext
  refine wpAny_bind (wpAny_attempt (wpAny_callSpecial?_slot (name := Str.ofString "__next__") hT F.slot_zip_next
    (wpAny_call_entry F.slot_zip_next hT F.entry_zip_next
      (next_end (show A.in1.handled = none from hh) S D1 D2 hz hTI st1 st2 fun h' e hk he => ?_) (F.args_zip_next_1 _))))
  obtain ⟨o, ho, hc⟩ := he
  refine wpAny_bind (wpAny_isInstance (T := "StopIteration") (b := true) ⟨o, ho, hc⟩ isSubtype_stop ?_)
  exact wpAny_pure (hQ _ hk)
/-- either sort of zip -/
theorem pyNextB_item {b : Bool} {Q : Option Value → Shared → Prop} (S : ZipSep2 z TI TO i1 i2 fp1 fp2)
    (D1 : Draws prog w A.in1 i1 fp1 n1 P1 St1) (D2 : Draws prog w A.in1 i2 fp2 n2 P2 St2)
    (hz : IsZipB b s.heap z TI TO .none) (hTI : IsTupOf2 s.heap TI (.ref i1) (.ref i2))
    (hTO : IsTupOf2 s.heap TO a1 a2) (st1 : St1 i s.heap) (st2 : St2 i s.heap) (l1 : i < n1) (l2 : i < n2)
    (hQ : ∀ x1 x2 h' tk, P1 i x1 → P2 i x2 → IsZipB b h' z TI TO (rawInt s.heap.objs.size) →
      IsTupOf2 h' TO x1 x2 → St1 (i + 1) h' → St2 (i + 1) h' → IsTupOf2 h' s.heap.objs.size x1 x2 →
      h'.objs.size = s.heap.objs.size + 1 →
      (∀ c o, c ≠ z → c ≠ TO → c ≠ i1 → c ≠ i2 → s.heap.get? c = some o → h'.get? c = some o) →
      Q (some (.ref s.heap.objs.size)) { s with heap := h', toks := tk }) :
    wpAny (model prog w) A (pyNext (.ref z)) Q E s := by
  cases b with
  | true => exact pyNext_item S D1 D2 hz hTI hTO st1 st2 l1 l2 hQ
  | false => exact wpAny_pyNext_zipD2_item S D1 D2 hz hTI hTO st1 st2 l1 l2 hQ
theorem pyNextB_end {b : Bool} {Q : Option Value → Shared → Prop} (hh : A.handled = none) (S : ZipSep2 z TI TO i1 i2 fp1 fp2)
    (D1 : Draws prog w A.in1 i1 fp1 n1 P1 St1) (D2 : Draws prog w A.in1 i2 fp2 n2 P2 St2)
    (hz : IsZipB b s.heap z TI TO .none) (hTI : IsTupOf2 s.heap TI (.ref i1) (.ref i2)) (hTO : IsTupOf2 s.heap TO a1 a2)
    (st1 : St1 i s.heap) (st2 : St2 i s.heap) (l1 : i ≤ n1) (l2 : i ≤ n2)
    (he : if b = true then i = n1 ∧ i = n2 else i = n1 ∨ i = n2)
    (hQ : ∀ h' tk, (∀ c o, c ≠ z → c ≠ TO → c ≠ i1 → c ≠ i2 → s.heap.get? c = some o → h'.get? c = some o) →
      Q none { s with heap := h', toks := tk }) :
    wpAny (model prog w) A (pyNext (.ref z)) Q E s := by
  cases b with
  | true =>
    obtain ⟨e1, e2⟩ : i = n1 ∧ i = n2 := he
    subst e1
    subst e2
    exact pyNext_end hh S D1 D2 hz hTI st1 st2 fun h' hk => hQ h' s.toks hk
  | false => exact wpAny_pyNext_zipD2_end S D1 D2 hz hTI hTO st1 st2 l1 l2 he hQ
theorem letGoB {b : Bool} {elts : List Expr} {kk : Nat} {pos : Pos} {T : Addr} {Q : Unit → Shared → Prop}
    (hz : IsZipB b s.heap z TI TO (rawInt T))
    (hQ : ∀ h', IsZipB b h' z TI TO .none → Heap.SameBut z s.heap h' → Q () { s with heap := h' }) :
    wpAny (model prog w) A (letOwnedTupleGo (.Tuple elts kk pos) (.ref z) (.ref T)) Q E s := by
  unfold letOwnedTupleGo
  refine wpAny_bind (wpAny_load hz ?_)
  show wpAny _ _ (if (["enumerate", "zip", "dict_itemiterator", "dict_reverseitemiterator", "odict_iterator", "itertools.zip_longest", "itertools.pairwise"].contains "zip" &&
      (#[rawInt T, .bool false, .bool b, .ref TI, .ref TO] : Array Value)[0]? == some (rawInt T)) = true then _ else _) Q E s
  rw [if_pos (by simp)]
  refine wpAny_bind (wpAny_rule ?_)
  show wpAny _ _ (setField (.ref z) 0 .none) Q E s
  exact wpAny_setField_rec hz (by simp) fun h' hz' hs' => hQ h' hz' hs'
theorem pyIterB {b : Bool} {f0 : Value} {Q : Value → Shared → Prop} (hz : IsZipB b s.heap z TI TO f0) (h : Q (.ref z) s) :
    wpAny (model prog w) A (pyIter (.ref z)) Q E s := by
  have hT : s.TypeIs (.ref z) "zip" := ⟨_, hz, rfl⟩
  refine wpAny_pyIter_slot hT F.slot_zip_iter (wpAny_call_entry F.slot_zip_iter hT F.entry_zip_iter ?_ (F.args_zip_iter_1 _))
  show wpAny _ _ (ret (.ref z)) _ _ s
  exact wpAny_pure ⟨_, rfl, "zip", _, hT, F.slot_zip_next.lookup, h⟩
end
end Zs
set_option Elab.async false
set_option linter.all false
set_option maxRecDepth 100000
set_option maxHeartbeats 2000000
namespace Zs
open PySem
theorem typeCall_strict (a b c : Value) : checkTypeCall "zip" ⟨[a, b], [(Str.ofString "strict", c)]⟩ = pure () := by kernel_rfl
theorem newCall_strict (a b c : Value) :
    checkBuiltinCall "zip.__new__" ⟨[.type "zip", a, b], [(Str.ofString "strict", c)]⟩ = pure () := by kernel_rfl
theorem init_strict (obj a b c : Value) : argsOk "object.__init__" ⟨[obj, a, b], [(Str.ofString "strict", c)]⟩ := by
  unfold argsOk
  kernel_rfl
/-- the heap behind zip(v1, v2, strict = True) -/
abbrev sZ (h : Heap) (o1 o2 : Obj) : Heap := (gzO2 h o1 o2).push { cls := .type "zip", data := .fields #[.none, .bool false, .bool true, .ref ((h.push o1).push o2).objs.size, .ref (gzT2 h o1 o2).objs.size] }
theorem meets_strict {v1 v2 : Value} {o1 o2 : Obj} {H1 H2 : Heap → Prop} (B1 : Begins v1 o1 H1) (B2 : Begins v2 o2 H2) :
    Meets (Builtin.«zip.__new__» ⟨[.type "zip", v1, v2], [(Str.ofString "strict", .bool true)]⟩) (fun _ R s => (H1 s.heap ∧ H2 s.heap) ∧
      R (.ok (.ret (.ref (gzO2 s.heap o1 o2).objs.size))) { s with heap := sZ s.heap o1 o2 }) :=
  .of_wp fun prog w A R s h => by
    obtain ⟨hp, g, d, tk, os⟩ := s
    obtain ⟨⟨h1, h2⟩, h⟩ := h
    have hsub := sub_zip
    have q1 : ∀ {A' : Around} {E : Value → Shared → Prop} {Q : Value → Shared → Prop}, Q (.ref hp.objs.size) ⟨(hp.push o1), g, d, tk, os⟩ →
        wpAny (model prog w) A' (pyIter v1) Q E ⟨hp, g, d, tk, os⟩ :=
      fun q => B1.iter prog w _ _ ⟨hp, g, d, tk, os⟩ _ h1 q
    have q2 : ∀ {A' : Around} {E : Value → Shared → Prop} {Q : Value → Shared → Prop}, Q (.ref (hp.push o1).objs.size) ⟨((hp.push o1).push o2), g, d, tk, os⟩ →
        wpAny (model prog w) A' (pyIter v2) Q E ⟨(hp.push o1), g, d, tk, os⟩ :=
      fun q => B2.iter prog w _ _ ⟨(hp.push o1), g, d, tk, os⟩ _ (B2.keeps _ _ h2 fun b o' e => (Heap.get?_push_of_some _ e)) q
    have e2 : (Str.ofString "strict" != ("strict" : Str)) = false := by decide +kernel
    wp_walk using q1, q2
    exact ⟨_, rfl, h⟩
section
variable {prog : Program} {w : World} {A : Around} {E : Value → Shared → Prop} {s : Shared}
theorem strict_begins {v1 v2 : Value} {o1 o2 : Obj} {H1 H2 : Heap → Prop} {Q : Value → Shared → Prop}
    (B1 : Begins v1 o1 H1) (B2 : Begins v2 o2 H2) (h1 : H1 s.heap) (h2 : H2 s.heap)
    (h : ∀ h', IsZipB true h' (s.heap.objs.size + 4) (s.heap.objs.size + 2) (s.heap.objs.size + 3) .none →
      IsTupOf2 h' (s.heap.objs.size + 2) (.ref s.heap.objs.size) (.ref (s.heap.objs.size + 1)) →
      IsTupOf2 h' (s.heap.objs.size + 3) .none .none → h'.get? s.heap.objs.size = some o1 →
      h'.get? (s.heap.objs.size + 1) = some o2 → h'.objs.size = s.heap.objs.size + 5 →
      (∀ c o, s.heap.get? c = some o → h'.get? c = some o) → Q (.ref (s.heap.objs.size + 4)) { s with heap := h' }) :
    wpAny (model prog w) A (call (.type "zip") [v1, v2] [(Str.ofString "strict", .bool true)]) Q E s := by
  refine callType_newKw F.called_zip (by decide) (typeCall_strict _ _ _) (newCall_strict _ _ _)
    (fun obj => init_strict obj _ _ _) F.entry_zip_new (meets_strict B1 B2) ⟨⟨h1, h2⟩, ?_⟩
  have z1 : (s.heap.push o1).objs.size = s.heap.objs.size + 1 := by rw [Heap.size_push]
  have z2 : ((s.heap.push o1).push o2).objs.size = s.heap.objs.size + 2 := by rw [Heap.size_push, z1]
  have zT : (gzT2 s.heap o1 o2).objs.size = s.heap.objs.size + 3 := by rw [Heap.size_push, z2]
  have zO : (gzO2 s.heap o1 o2).objs.size = s.heap.objs.size + 4 := by rw [Heap.size_push, zT]
  have zZ : (sZ s.heap o1 o2).objs.size = s.heap.objs.size + 5 := by rw [Heap.size_push, zO]
  have gZ : IsZipB true (sZ s.heap o1 o2) (gzO2 s.heap o1 o2).objs.size ((s.heap.push o1).push o2).objs.size (gzT2 s.heap o1 o2).objs.size .none := Heap.get?_push_size _ rfl
  have gO : IsTupOf2 (sZ s.heap o1 o2) (gzT2 s.heap o1 o2).objs.size .none .none := Heap.get?_push_of_some _ (Heap.get?_push_size _ rfl)
  have gT : IsTupOf2 (sZ s.heap o1 o2) ((s.heap.push o1).push o2).objs.size (.ref s.heap.objs.size) (.ref (s.heap.push o1).objs.size) :=
    Heap.get?_push_of_some _ (Heap.get?_push_of_some _ (Heap.get?_push_size _ rfl))
  have g1 : (sZ s.heap o1 o2).get? s.heap.objs.size = some o1 :=
    Heap.get?_push_of_some _ (Heap.get?_push_of_some _ (Heap.get?_push_of_some _ (Heap.get?_push_of_some _ (Heap.get?_push_size _ B1.free))))
  have g2 : (sZ s.heap o1 o2).get? (s.heap.push o1).objs.size = some o2 :=
    Heap.get?_push_of_some _ (Heap.get?_push_of_some _ (Heap.get?_push_of_some _ (Heap.get?_push_size _ B2.free)))
  rw [zO, zT, z2] at gZ
  rw [zT] at gO
  rw [z2, z1] at gT
  rw [z1] at g2
  show _ ∧ _
  rw [zO]
  exact ⟨⟨_, gZ, rfl⟩, h _ gZ gT gO g1 g2 zZ fun c o e =>
    Heap.get?_push_of_some _ (Heap.get?_push_of_some _ (Heap.get?_push_of_some _ (Heap.get?_push_of_some _ (Heap.get?_push_of_some _ e))))⟩
end
section
variable {M : Model} {A : Around} {E : Value → Shared → Prop} {s : Shared} {env : Env}
theorem callWith_tyKw {pos : Pos} {T : String} {e : Expr} {rest : List Expr} {kws : List Keyword} {Q : Value → Shared → Prop}
    (h : wpAny M A (spliced (backTo pos (starEach (e :: rest) env))) (fun vs s₁ => wpAny M A (evalAll ((backToKw pos (keywordEach kws env)).map (·.2)))
      (fun kvs s₂ => wpAny M A (call (.type T) vs (((backToKw pos (keywordEach kws env)).filterMap (·.1)).zip kvs)) Q E s₂) E s₁) E s)
    (he : backTo pos (starEach (e :: rest) env) = (false, eval e env) :: backTo pos (starEach rest env) := by rfl)
    (hplain : (backTo pos (starEach (e :: rest) env)).any (·.1) = false := by rfl)
    (hall : (backToKw pos (keywordEach kws env)).all (·.1.isSome) = true := by rfl)
    (hkw : (backToKw pos (keywordEach kws env)).any (·.1.isNone) = false := by rfl) :
    wpAny M A (callWith pos (.type T) [] (backTo pos (starEach (e :: rest) env)) (backToKw pos (keywordEach kws env))) Q E s := by
  have h' : wpAny M A (evalArgs (.type T) true (backTo pos (starEach (e :: rest) env)) (backToKw pos (keywordEach kws env)))
      (fun a s₁ => wpAny M A (call (.type T) ([] ++ a.pos) a.kw) Q E s₁) E s := by
    rw [he] at h ⊢
    exact PyProof.Rows.evalArgs_kwB hall h
  unfold callWith
  refine wpAny_bind (wpAny_holding (wpAny_mono h' (fun a s₁ h₁ => wpAny_bind (wpAny_standAt ?_)) fun _ _ x => x))
  simp only [hplain, hkw, Bool.or_false]
  refine wpAny_bind (wpAny_pure ?_)
  exact wpAny_bind (wpAny_mono h₁ (fun r s₂ hr => wpAny_bind (wpAny_holding (wpAny_point (wpAny_pure hr)))) fun _ _ x => x)
end
end Zs
set_option Elab.async false
set_option linter.all false
set_option maxRecDepth 100000
set_option maxHeartbeats 2000000
/-! zip of two things, each a list, a tuple or a text, strict or not, over the hand layer -/
namespace Zs
open PySem PySem.Spec PyProof.Rows L2
inductive Src where
  | lst (a : Addr) | tup (a : Addr) | str (x : Str)
def Src.v : Src → V
  | .lst a => .ref a
  | .tup a => .ref a
  | .str x => .str x
/-- a text's signs, one by one -/
def signsV (x : Str) : List V := x.cps.toList.map fun c => V.str ⟨#[c]⟩
def Src.at (K : PySem.W.Frag) (H : Hp) (k : Src) (xs : List V) : Prop := match k with
  | .lst a => SqL K H a xs
  | .tup a => SqT K H a xs
  | .str x => xs = signsV x
def Src.st (it : Addr) (i : Nat) (h : Heap) (k : Src) : Prop := match k with
  | .lst a => h.IsListIter it a i
  | .tup a => h.IsTupleIter it a i
  | .str x => ∃ t, h.IsStrIter it (strIterType x) x t i
def Src.apart (z : Addr) (k : Src) : Prop := match k with
  | .lst a => a ≠ z
  | .tup a => a ≠ z
  | .str _ => True
def Src.below (n : Nat) (k : Src) : Prop := match k with
  | .lst a => a < n
  | .tup a => a < n
  | .str _ => True
theorem Src.below.apart {k : Src} {n z : Nat} (h : k.below n) (hz : n ≤ z) : k.apart z := by
  cases k with
  | lst a => exact Nat.ne_of_lt (Nat.lt_of_lt_of_le h hz)
  | tup a => exact Nat.ne_of_lt (Nat.lt_of_lt_of_le h hz)
  | str x => trivial
theorem Src.st_obj {k : Src} {it : Addr} {i : Nat} {h : Heap} (st : k.st it i h) : ∃ o, h.get? it = some o ∧ ∀ v, o.data ≠ .cell v := by
  cases k with
  | lst a => obtain ⟨o, e, _, d⟩ := st; exact ⟨o, e, fun v q => by rw [d] at q; cases q⟩
  | tup a => obtain ⟨o, e, _, d⟩ := st; exact ⟨o, e, fun v q => by rw [d] at q; cases q⟩
  | str x => obtain ⟨t, o, e, _, d⟩ := st; exact ⟨o, e, fun v q => by rw [d] at q; cases q⟩
theorem Src.st_keep {k : Src} {it : Addr} {i : Nat} {h h' : Heap} (st : k.st it i h) (kp : ∀ o, h.get? it = some o → h'.get? it = some o) : k.st it i h' := by
  cases k with
  | lst a => obtain ⟨o, e, r⟩ := st; exact ⟨o, kp o e, r⟩
  | tup a => obtain ⟨o, e, r⟩ := st; exact ⟨o, kp o e, r⟩
  | str x => obtain ⟨t, o, e, r⟩ := st; exact ⟨t, o, kp o e, r⟩
section
variable {X : Cx} {pins : List (Addr × Obj)} {σ : L2.St} {H : Hp} {s : Shared}
theorem Src.at_inj (I : Inv X pins σ H s) {k : Src} {xs ys : List V} (h : k.at X.K H xs) (h' : k.at X.K H ys) : xs = ys := by
  cases k with
  | lst a => exact I.list_inj h h'
  | tup a => exact I.tuple_inj h h'
  | str x => exact Eq.trans h (Eq.symm h')
theorem Src.draws {A : Around} (I : Inv X pins σ H s) (hh : A.handled = none) {k : Src} {xs : List V} (hq : k.at X.K H xs) {it : Addr} (ha : k.apart it) {i : Nat} (st : k.st it i s.heap) :
    ∃ (fp : List Addr) (P : Nat → Value → Prop) (St : Nat → Heap → Prop), Draws X.prog X.w A it fp xs.length P St ∧ (∀ j v, P j v → ∃ x, xs[j]? = some x ∧ RelV x v) ∧
      St i s.heap ∧ (∀ j h, St j h → k.st it j h) ∧ it ∈ fp ∧ ∀ b ∈ fp, b = it ∨ ¬ k.apart b := by
  cases k with
  | lst a =>
    obtain ⟨its, rv, p, _⟩ := I.list hq
    have hl : its.toArray.size = xs.length := by rw [List.size_toArray]; exact rv.length.symm
    refine ⟨[it, a], fun j v => its.toArray[j]? = some v, fun j h => h.IsListIter it a j ∧ h.IsList a its.toArray, ?_, fun j v e => ?_, ⟨st, p.isList⟩, fun j h z => z.1, by simp, fun b hb => ?_⟩
    · rw [← hl]
      exact Draws.list hh it a ha its.toArray
    · have e' : its[j]? = some v := by simpa using e
      have hj : j < xs.length := by
        rw [rv.length]
        exact (List.getElem?_eq_some_iff.mp e').1
      obtain ⟨u, hu, ru⟩ := rv.get (List.getElem?_eq_getElem hj)
      rw [e'] at hu
      cases hu
      exact ⟨_, List.getElem?_eq_getElem hj, ru⟩
    · have e : b = it ∨ b = a := by simpa using hb
      rcases e with e | e
      · exact .inl e
      · exact .inr fun q => q e.symm
  | tup a =>
    obtain ⟨its, rv, p, _⟩ := I.tuple hq
    have hl : its.toArray.size = xs.length := by rw [List.size_toArray]; exact rv.length.symm
    refine ⟨[it, a], fun j v => its.toArray[j]? = some v, fun j h => h.IsTupleIter it a j ∧ h.IsTuple a its.toArray, ?_, fun j v e => ?_, ⟨st, p⟩, fun j h z => z.1, by simp, fun b hb => ?_⟩
    · rw [← hl]
      exact Draws.tuple hh it a ha its.toArray
    · have e' : its[j]? = some v := by simpa using e
      have hj : j < xs.length := by
        rw [rv.length]
        exact (List.getElem?_eq_some_iff.mp e').1
      obtain ⟨u, hu, ru⟩ := rv.get (List.getElem?_eq_getElem hj)
      rw [e'] at hu
      cases hu
      exact ⟨_, List.getElem?_eq_getElem hj, ru⟩
    · have e : b = it ∨ b = a := by simpa using hb
      rcases e with e | e
      · exact .inl e
      · exact .inr fun q => q e.symm
  | str x =>
    have hq : xs = signsV x := hq
    obtain ⟨t, st⟩ := st
    have hl : x.cps.size = xs.length := by rw [hq]; unfold signsV; rw [List.length_map, Array.length_toList]
    refine ⟨[it], fun j v => ∃ c u, x.cps[j]? = some c ∧ v = .str ⟨#[c]⟩ u, _, ?_, ?_, st, fun j h z => ⟨t, z⟩, by simp, fun b hb => .inl (by simpa using hb)⟩
    · rw [← hl]
      exact Draws.text hh it x t
    · rintro j v ⟨c, u, hc, rfl⟩
      refine ⟨.str ⟨#[c]⟩, ?_, u, rfl⟩
      rw [hq]
      unfold signsV
      rw [List.getElem?_map, Array.getElem?_toList, hc]
      rfl
theorem Src.begins (I : Inv X pins σ H s) {k : Src} {xs : List V} (hq : k.at X.K H xs) {u : Value} (r : RelV k.v u) :
    ∃ (o : Obj) (HH : Heap → Prop), Begins u o HH ∧ HH s.heap ∧ (∀ h it, h.get? it = some o → k.st it 0 h) ∧ k.below s.heap.objs.size := by
  cases k with
  | lst a =>
    obtain ⟨its, rv, p, _⟩ := I.list hq
    have e : u = .ref a := r
    subst e
    exact ⟨_, _, begins_list a its.toArray, p.isList, fun h it e => ⟨_, e, rfl, rfl⟩, p.lt⟩
  | tup a =>
    obtain ⟨its, rv, p, _⟩ := I.tuple hq
    have e : u = .ref a := r
    subst e
    exact ⟨_, _, begins_tuple a its.toArray, p, fun h it e => ⟨_, e, rfl, rfl⟩, let ⟨_, e, _⟩ := p; Heap.lt_size e⟩
  | str x =>
    obtain ⟨t, rfl⟩ := r
    exact ⟨_, _, begins_text x t, trivial, fun h it e => ⟨t, _, e, rfl, rfl⟩, trivial⟩
end
structure Sep (z TI TO i1 i2 : Addr) (k1 k2 : Src) : Prop where
  TIz : TI ≠ z
  TOz : TO ≠ z
  TITO : TI ≠ TO
  TIi1 : TI ≠ i1
  TIi2 : TI ≠ i2
  zi1 : z ≠ i1
  zi2 : z ≠ i2
  Ti1 : TO ≠ i1
  Ti2 : TO ≠ i2
  i12 : i1 ≠ i2
  a1z : k1.apart z
  a1T : k1.apart TO
  a11 : k1.apart i1
  a12 : k1.apart i2
  a2z : k2.apart z
  a2T : k2.apart TO
  a21 : k2.apart i1
  a22 : k2.apart i2
theorem nne {n a b : Nat} (h : a ≠ b) : n + a ≠ n + b := by omega
theorem nne0 {n b : Nat} (h : b ≠ 0) : n ≠ n + b := by omega
theorem sep_new (n : Nat) {k1 k2 : Src} (b1 : k1.below n) (b2 : k2.below n) : Sep (n + 4) (n + 2) (n + 3) n (n + 1) k1 k2 :=
  ⟨nne (by decide), nne (by decide), nne (by decide), (nne0 (by decide)).symm, nne (by decide), (nne0 (by decide)).symm, nne (by decide), (nne0 (by decide)).symm, nne (by decide), nne0 (by decide),
    b1.apart (Nat.le_add_right _ _), b1.apart (Nat.le_add_right _ _), b1.apart (Nat.le_refl _), b1.apart (Nat.le_add_right _ _),
    b2.apart (Nat.le_add_right _ _), b2.apart (Nat.le_add_right _ _), b2.apart (Nat.le_refl _), b2.apart (Nat.le_add_right _ _)⟩
theorem Sep.zs {z TI TO i1 i2 : Addr} {k1 k2 : Src} {fp1 fp2 : List Addr} (D : Sep z TI TO i1 i2 k1 k2) (m1 : i1 ∈ fp1) (m2 : i2 ∈ fp2)
    (f1 : ∀ b ∈ fp1, b = i1 ∨ ¬ k1.apart b) (f2 : ∀ b ∈ fp2, b = i2 ∨ ¬ k2.apart b) : ZipSep2 z TI TO i1 i2 fp1 fp2 where
  TIz := D.TIz
  TOz := D.TOz
  TITO := D.TITO
  TIi1 := D.TIi1
  mem1 := m1
  zf1 := fun h => (f1 _ h).elim D.zi1 fun q => q D.a1z
  Tf1 := fun h => (f1 _ h).elim D.Ti1 fun q => q D.a1T
  TIi2 := D.TIi2
  mem2 := m2
  zf2 := fun h => (f2 _ h).elim D.zi2 fun q => q D.a2z
  Tf2 := fun h => (f2 _ h).elim D.Ti2 fun q => q D.a2T
  sep1_2 := fun h => (f2 _ h).elim D.i12 fun q => q D.a21
  sep2_1 := fun h => (f1 _ h).elim D.i12.symm fun q => q D.a12
/-- what zip of k1 and k2 yields: new pairs -/
def ItZ (b : Bool) (K : PySem.W.Frag) (k1 k2 : Src) : It :=
  ⟨fun i H => ∃ (xs ys : List V) (x y : V), k1.at K H xs ∧ k2.at K H ys ∧ xs[i]? = some x ∧ ys[i]? = some y,
    fun i H v H' => ∃ T x y, v = .ref T ∧ H T = none ∧ H' = upd H T (.tup [x, y]) ∧ (∀ xs, k1.at K H xs → xs[i]? = some x) ∧ ∀ ys, k2.at K H ys → ys[i]? = some y,
    fun i H => ∃ xs ys : List V, k1.at K H xs ∧ k2.at K H ys ∧ i ≤ xs.length ∧ i ≤ ys.length ∧ if b = true then i = xs.length ∧ i = ys.length else i = xs.length ∨ i = ys.length⟩
theorem turn_zipB {b : Bool} {P : Program} {w : World} {K : PySem.W.Frag} {elts : List Expr} {kk : Nat} {tpos : Pos} {k1 k2 : Src} {z TI TO i1 i2 : Addr} (D : Sep z TI TO i1 i2 k1 k2) :
    Turn P w K (.Tuple elts kk tpos) (ItZ b K k1 k2) [z, TI, TO, i1, i2] z
      (fun i h => IsZipB b h z TI TO .none ∧ IsTupOf2 h TI (.ref i1) (.ref i2) ∧ (∃ x y, IsTupOf2 h TO x y) ∧ k1.st i1 i h ∧ k2.st i2 i h) where
  mem := by simp
  obj := fun i h st c hc => by
    obtain ⟨hz, hTI, ⟨x, y, hTO⟩, s1, s2⟩ := st
    have e' : c = z ∨ c = TI ∨ c = TO ∨ c = i1 ∨ c = i2 := by simpa using hc
    rcases e' with q | q | q | q | q
    · rw [q]; exact ⟨_, hz, fun v q => nomatch q⟩
    · rw [q]; exact ⟨_, hTI, fun v q => nomatch q⟩
    · rw [q]; exact ⟨_, hTO, fun v q => nomatch q⟩
    · rw [q]; exact Src.st_obj s1
    · rw [q]; exact Src.st_obj s2
  keep := fun i h h' st k => by
    obtain ⟨hz, hTI, ⟨x, y, hTO⟩, s1, s2⟩ := st
    exact ⟨k z (by simp) _ hz, k TI (by simp) _ hTI, ⟨x, y, k TO (by simp) _ hTO⟩, Src.st_keep s1 (k i1 (by simp)), Src.st_keep s2 (k i2 (by simp))⟩
  item := by
    intro X hP hw hK hc i pins s σ H E I hf st hg
    subst hP hw hK
    obtain ⟨hz, hTI, ⟨x0, y0, hTO⟩, s1, s2⟩ := st
    obtain ⟨xs, ys, x, y, hqx, hqy, hx, hy⟩ := hg
    have hh : X.A.in1.handled = none := I.ok.hd hc
    obtain ⟨fp1, P1, St1, D1, r1, a1, b1, m1, f1⟩ := Src.draws (A := X.A.in1) I hh hqx D.a11 s1
    obtain ⟨fp2, P2, St2, D2, r2, a2, b2, m2, f2⟩ := Src.draws (A := X.A.in1) I hh hqy D.a22 s2
    have hzl : z < s.heap.objs.size := Heap.lt_size hz
    refine pyNextB_item (D.zs m1 m2 f1 f2) D1 D2 hz hTI hTO a1 a2 (List.getElem?_eq_some_iff.mp hx).1 (List.getElem?_eq_some_iff.mp hy).1 fun u u2 h' tk p1 p2 z' TO' h1' h2' hT hsz hk => ?_
    obtain ⟨x', hx', ru⟩ := r1 i u p1
    obtain ⟨y', hy', ru2⟩ := r2 i u2 p2
    rw [hx] at hx'
    cases hx'
    rw [hy] at hy'
    cases hy'
    refine ⟨_, rfl, letGoB (s := { s with heap := h', toks := tk }) z' fun h'' z'' sb => ?_⟩
    have hT2 : h''.get? s.heap.objs.size = some { cls := .type "tuple", data := .seq #[u, u2] } := (sb.2 _ (Nat.ne_of_gt hzl)).trans hT
    have new : ObjOk X.prog X.w (upd H s.heap.objs.size (.tup [x, y])) h'' s.heap.objs.size (.tup [x, y]) :=
      ⟨by show 2 ≤ sizeLine; decide, [u, u2], .cons ru (.cons ru2 .nil), ⟨_, hT2, rfl, _, rfl⟩⟩
    have I1 : Inv X pins σ (upd H s.heap.objs.size (.tup [x, y])) { s with heap := h'', toks := tk } :=
      I.turnedNew (t' := tk) (ch := [z, TI, TO, i1, i2]) (fun c o hb q => (sb.2 c (fun q' => hb (by simp [q']))).trans
        (hk c o (fun q' => hb (by simp [q'])) (fun q' => hb (by simp [q'])) (fun q' => hb (by simp [q'])) (fun q' => hb (by simp [q'])) q)) hf (Nat.le_refl _) new
    refine ⟨.ref s.heap.objs.size, _, I1, rfl, ⟨_, x, y, rfl, I.hok.fresh (Nat.le_refl _), rfl, fun l hl => by rw [Src.at_inj I hl hqx]; exact hx,
      fun l hl => by rw [Src.at_inj I hl hqy]; exact hy⟩, ⟨z'', ?_, ⟨u, u2, ?_⟩, ?_, ?_⟩, fun c hcm => ?_⟩
    · exact (sb.2 _ D.TIz).trans (hk _ _ D.TIz D.TITO D.TIi1 D.TIi2 hTI)
    · exact (sb.2 _ D.TOz).trans TO'
    · exact Src.st_keep (b1 _ _ h1') fun o q => (sb.2 _ D.zi1.symm).trans q
    · exact Src.st_keep (b2 _ _ h2') fun o q => (sb.2 _ D.zi2.symm).trans q
    · have hlt : c < s.heap.objs.size := by
        have e' : c = z ∨ c = TI ∨ c = TO ∨ c = i1 ∨ c = i2 := by simpa using hcm
        rcases e' with q | q | q | q | q
        · rw [q]; exact hzl
        · rw [q]; exact Heap.lt_size hTI
        · rw [q]; exact Heap.lt_size hTO
        · rw [q]; obtain ⟨_, e1, _⟩ := Src.st_obj s1; exact Heap.lt_size e1
        · rw [q]; obtain ⟨_, e2, _⟩ := Src.st_obj s2; exact Heap.lt_size e2
      rw [upd_ne (Nat.ne_of_lt hlt)]
      exact (hf c hcm).1
  done := by
    intro X hP hw hK hc i pins s σ H E I hf st hg
    subst hP hw hK
    obtain ⟨hz, hTI, ⟨x0, y0, hTO⟩, s1, s2⟩ := st
    obtain ⟨xs, ys, hqx, hqy, l1, l2, hend⟩ := hg
    have hh : X.A.in1.handled = none := I.ok.hd hc
    obtain ⟨fp1, P1, St1, D1, r1, a1, b1, m1, f1⟩ := Src.draws (A := X.A.in1) I hh hqx D.a11 s1
    obtain ⟨fp2, P2, St2, D2, r2, a2, b2, m2, f2⟩ := Src.draws (A := X.A.in1) I hh hqy D.a22 s2
    exact pyNextB_end (I.ok.hd hc) (D.zs m1 m2 f1 f2) D1 D2 hz hTI hTO a1 a2 l1 l2 hend fun h' tk hk => ⟨rfl, I.turnedL (t' := tk) (ch := [z, TI, TO, i1, i2]) (fun c o hb q =>
      hk c o (fun q' => hb (by simp [q'])) (fun q' => hb (by simp [q'])) (fun q' => hb (by simp [q'])) (fun q' => hb (by simp [q'])) q) hf⟩
  self := fun A i s Q E st h => pyIterB st.1 h
def iZipB (b : Bool) (K : PySem.W.Frag) (ta : TA) : TI := fun σ H R => ta σ H fun vs H1 =>
  ∃ (k1 k2 : Src) (xs ys : List V), vs = [k1.v, k2.v] ∧ k1.at K H1 xs ∧ k2.at K H1 ys ∧ R (ItZ b K k1 k2) H1
section
variable {X : Cx} {pins : List (Addr × Obj)} {σ : L2.St} {H1 : Hp} {s1 : Shared} {elts : List Expr} {kk : Nat} {tpos : Pos}
theorem fresh5 (I1 : Inv X pins σ H1 s1) : ∀ c, c ∈ [s1.heap.objs.size + 4, s1.heap.objs.size + 2, s1.heap.objs.size + 3, s1.heap.objs.size, s1.heap.objs.size + 1] → FpOk X pins H1 c := fun c hcm => by
  have e' : c = s1.heap.objs.size + 4 ∨ c = s1.heap.objs.size + 2 ∨ c = s1.heap.objs.size + 3 ∨ c = s1.heap.objs.size ∨ c = s1.heap.objs.size + 1 := by simpa using hcm
  have hle : s1.heap.objs.size ≤ c := by
    rcases e' with z | z | z | z | z
    · rw [z]; exact Nat.le_add_right _ _
    · rw [z]; exact Nat.le_add_right _ _
    · rw [z]; exact Nat.le_add_right _ _
    · rw [z]; exact Nat.le_refl _
    · rw [z]; exact Nat.le_add_right _ _
  exact I1.fpOk hle (I1.hok.fresh hle)
theorem zipB_made {b : Bool} {R : It → Hp → Prop} {k1 k2 : Src} {o1 o2 : Obj} {h' : Heap} (I1 : Inv X pins σ H1 s1) (l1 : k1.below s1.heap.objs.size) (l2 : k2.below s1.heap.objs.size)
    (t1 : ∀ h it, h.get? it = some o1 → k1.st it 0 h) (t2 : ∀ h it, h.get? it = some o2 → k2.st it 0 h)
    (hz : IsZipB b h' (s1.heap.objs.size + 4) (s1.heap.objs.size + 2) (s1.heap.objs.size + 3) .none) (hTI : IsTupOf2 h' (s1.heap.objs.size + 2) (.ref s1.heap.objs.size) (.ref (s1.heap.objs.size + 1)))
    (hTO : IsTupOf2 h' (s1.heap.objs.size + 3) .none .none) (g1 : h'.get? s1.heap.objs.size = some o1) (g2 : h'.get? (s1.heap.objs.size + 1) = some o2)
    (hk : ∀ c o, s1.heap.get? c = some o → h'.get? c = some o) (q : R (ItZ b X.K k1 k2) H1) {E : Value → Shared → Prop} :
    wpAny (model X.prog X.w) X.A (pyIter (.ref (s1.heap.objs.size + 4))) (PIE X pins σ (.Tuple elts kk tpos) R) E { s1 with heap := h' } := by
  refine pyIterB hz ?_
  have I2 : Inv X pins σ H1 { s1 with heap := h' } := I1.kept (t' := s1.toks) hk
  exact ⟨s1.heap.objs.size + 4, [s1.heap.objs.size + 4, s1.heap.objs.size + 2, s1.heap.objs.size + 3, s1.heap.objs.size, s1.heap.objs.size + 1], _, _, H1, rfl, I2,
    turn_zipB (sep_new s1.heap.objs.size l1 l2), ⟨hz, hTI, ⟨_, _, hTO⟩, t1 _ _ g1, t2 _ _ g2⟩, fresh5 I1, q⟩
end
section
variable {X : Cx} {e e2 : Expr} {ta : TA} {p pos tpos kp q : Pos} {elts : List Expr} {kk : Nat}
/-- zip(a, b) -/
theorem pi_zip2 (hg : Gl X "zip") (hm : X.mg "zip" = none) (ha : PA X [e, e2] ta)
    (hs : starEach [e, e2] X.env = (false, eval e X.env) :: starEach [e2] X.env := by rfl) (hpl : (backTo pos (starEach [e2] X.env)).any (·.1) = false := by rfl) :
    PI X (.Tuple elts kk tpos) (.Call (.Name "zip" p) [e, e2] [] pos) (iZipB false X.K ta) := by
  refine ⟨fun pins s σ H R I h => ?_⟩
  refine Call_ (ld_blt I hg hm PyProof.Rows.boot_zip (PyProof.Rows.callWith_type1 (thn (ha.run pos pins s σ H _ I h) fun us s1 ⟨vs, H1, I1, r1, q1⟩ => ?_) hs hpl))
  obtain ⟨k1, k2, xs, ys, ex, hqx, hqy, q⟩ := q1
  subst ex
  cases r1 with
  | cons r rr =>
    cases rr with
    | cons r' rr =>
      cases rr
      obtain ⟨o1, HH1, B1, h1, t1, l1⟩ := Src.begins I1 hqx r
      obtain ⟨o2, HH2, B2, h2, t2, l2⟩ := Src.begins I1 hqy r'
      exact zip_begins2 B1 B2 h1 h2 fun h' hz hTI hTO g1 g2 hsz hk => zipB_made I1 l1 l2 t1 t2 hz hTI hTO g1 g2 hk q
/-- zip(a, b, strict=True) -/
theorem pi_zipS {ck : Nat} {nm : Str} (hnm : nm = Str.ofString "strict") (hg : Gl X "zip") (hm : X.mg "zip" = none) (ha : PA X [e, e2] ta)
    (hs : backTo pos (starEach [e, e2] X.env) = (false, eval e X.env) :: backTo pos (starEach [e2] X.env) := by rfl) (hpl : (backTo pos (starEach [e, e2] X.env)).any (·.1) = false := by rfl) :
    PI X (.Tuple elts kk tpos) (.Call (.Name "zip" p) [e, e2] [⟨some nm, .Constant (.bool true) ck q, kp⟩] pos) (iZipB true X.K ta) := by
  subst hnm
  refine ⟨fun pins s σ H R I h => ?_⟩
  refine wpAny_Call_Name_kw (ld_blt I hg hm PyProof.Rows.boot_zip ?_)
  refine callWith_tyKw (thn (ha.run pos pins s σ H _ I h) fun us s1 ⟨vs, H1, I1, r1, q1⟩ => ?_) hs hpl
  obtain ⟨k1, k2, xs, ys, ex, hqx, hqy, q⟩ := q1
  subst ex
  refine PyProof.Rows.kws_cons (thn ((pe_bl (X := X) (b := true)).run pins s1 σ H1 (fun v H' => v = .bl true ∧ H' = H1) I1 ⟨rfl, rfl⟩) fun u s2 ⟨v, H2, I2, rv, e1, e2⟩ => PyProof.Rows.kws_nil ?_)
  subst e1
  subst e2
  have eu : u = .bool true := rv
  subst eu
  cases r1 with
  | cons r rr =>
    cases rr with
    | cons r' rr =>
      cases rr
      obtain ⟨o1, HH1, B1, h1, t1, l1⟩ := Src.begins I2 hqx r
      obtain ⟨o2, HH2, B2, h2, t2, l2⟩ := Src.begins I2 hqy r'
      exact strict_begins B1 B2 h1 h2 fun h' hz hTI hTO g1 g2 hsz hk => zipB_made I2 l1 l2 t1 t2 hz hTI hTO g1 g2 hk q
end
end Zs
set_option Elab.async false
set_option linter.all false
set_option maxRecDepth 100000
set_option maxHeartbeats 2000000
namespace Zs
open PySem PySem.Spec PyProof.Rows L2
theorem same_tup {K : PySem.W.Frag} {H H' : Hp} {a : Addr} {xs : List V} (e : Same H H') (h : SqT K H a xs) : SqT K H' a xs := by
  rcases h with (h | ⟨o, h⟩) | h
  · exact .inl (.inl (e _ _ h))
  · exact .inl (.inr ⟨o, e _ _ h⟩)
  · exact .inr h
theorem Src.same {K : PySem.W.Frag} {H H' : Hp} {k : Src} {xs : List V} (e : Same H H') (h : k.at K H xs) : k.at K H' xs := by
  cases k with
  | lst a => exact e.seq h
  | tup a => exact same_tup e h
  | str x => exact h
/-- a loop over zip of two things of one length -/
theorem for_zipB {b : Bool} {K : PySem.W.Frag} {k1 k2 : Src} {xs ys : List V} {g : TG} {tb : TS} {D : Ends} {σ : L2.St} {H : Hp} (hl : xs.length = ys.length)
    (Pv : Nat → L2.St → Hp → Prop) (h0 : Pv 0 σ H) (hq : ∀ i σ H, Pv i σ H → k1.at K H xs ∧ k2.at K H ys)
    (hs : ∀ (i : Nat) (x y : V) (T : Addr) (σ : L2.St) (H : Hp), xs[i]? = some x → ys[i]? = some y → Pv i σ H → H T = none →
      g (.ref T) σ (upd H T (.tup [x, y])) fun σ2 H2 => tb { D with nx := Pv (i + 1), ct := Pv (i + 1), bk := D.nx } σ2 H2)
    (hd : ∀ σ H, Pv xs.length σ H → D.nx σ H) :
    ∃ W : Nat → Nat → L2.St → Hp → Prop, (∃ m, W 0 m σ H) ∧ ∀ i m σ H, W i m σ H →
      ((ItZ b K k1 k2).stop i H ∧ D.nx σ H) ∨ ((ItZ b K k1 k2).go i H ∧ ∃ N : L2.St → Hp → Prop, (∀ σ' H', N σ' H' → ∃ m', m' < m ∧ W (i + 1) m' σ' H') ∧
        ∀ v H', (ItZ b K k1 k2).yld i H v H' → g v σ H' fun σ2 H2 => tb { D with nx := N, ct := N, bk := D.nx } σ2 H2) := by
  refine ⟨fun i m σ H => m = xs.length - i ∧ i ≤ xs.length ∧ Pv i σ H, ⟨xs.length, rfl, Nat.zero_le _, h0⟩, ?_⟩
  rintro i m σ H ⟨rfl, hi, p⟩
  obtain ⟨qx, qy⟩ := hq i σ H p
  by_cases hlt : i < xs.length
  · have hx : xs[i]? = some xs[i] := List.getElem?_eq_getElem hlt
    have hlt2 : i < ys.length := by omega
    have hy : ys[i]? = some ys[i] := List.getElem?_eq_getElem hlt2
    refine .inr ⟨⟨xs, ys, _, _, qx, qy, hx, hy⟩, Pv (i + 1), fun σ' H' p' => ⟨xs.length - (i + 1), by omega, rfl, hlt, p'⟩, fun v H' y => ?_⟩
    obtain ⟨T, x', y', rfl, hT, rfl, f1, f2⟩ := y
    exact hs i x' y' T σ H (f1 xs qx) (f2 ys qy) p hT
  · have e : i = xs.length := by omega
    subst e
    refine .inl ⟨⟨xs, ys, qx, qy, Nat.le_refl _, by omega, ?_⟩, hd σ H p⟩
    cases b with
    | true => exact ⟨rfl, hl⟩
    | false => exact .inl rfl
end Zs
set_option linter.all false
/-! the mathematics of k78: numbers that leave rests -/
namespace M78
/-- the least common multiple of all -/
def lcmL (ts : List Nat) : Nat := ts.foldl Nat.lcm 1
theorem lcmL_snoc (ts : List Nat) (t : Nat) : lcmL (ts ++ [t]) = Nat.lcm (lcmL ts) t := by
  unfold lcmL
  rw [List.foldl_append]
  rfl
def Apart (rs ts : List Nat) : Prop := ∃ (i j ri rj ti tj : Nat), j < i ∧ rs[i]? = some ri ∧ rs[j]? = some rj ∧ ts[i]? = some ti ∧ ts[j]? = some tj ∧
  ¬ (((ri : Int) - rj) % (Nat.gcd ti tj : Nat) = 0)
def Leaves (rs ts : List Nat) (n : Nat) : Prop := ∀ (i r t : Nat), rs[i]? = some r → ts[i]? = some t → n % t = r
def LW (rs ts : List Nat) (m : Nat) : Option Nat → Prop
  | none => Apart rs ts
  | some n => Leaves rs ts n ∧ m ≤ n ∧ n < m + lcmL ts
/-! ### the greatest common divisor of a least common multiple -/
theorem dvd_mul_gcd {k a d b : Nat} (h1 : k ∣ a * b) (h2 : k ∣ a * d) (h3 : k ∣ d * b) (h4 : k ∣ d * d) : k ∣ Nat.gcd a d * Nat.gcd b d := by
  rw [← Nat.gcd_mul_right]
  refine Nat.dvd_gcd ?_ ?_
  · rw [← Nat.gcd_mul_left]
    exact Nat.dvd_gcd h1 h2
  · rw [← Nat.gcd_mul_left]
    exact Nat.dvd_gcd h3 h4
theorem dvd_of_dvd_lcm {a b d x : Nat} (hd : 0 < d) (h : d ∣ Nat.lcm a b) (h1 : Nat.gcd a d ∣ x) (h2 : Nat.gcd b d ∣ x) : d ∣ x := by
  refine Nat.dvd_trans ?_ (Nat.lcm_dvd h1 h2)
  have hG : 0 < Nat.gcd (Nat.gcd a d) (Nat.gcd b d) := Nat.gcd_pos_of_pos_left _ (Nat.gcd_pos_of_pos_right _ hd)
  refine Nat.dvd_of_mul_dvd_mul_right hG ?_
  rw [Nat.mul_comm (Nat.lcm _ _), Nat.gcd_mul_lcm]
  have gd : Nat.gcd (Nat.gcd a d) (Nat.gcd b d) ∣ d := Nat.dvd_trans (Nat.gcd_dvd_left _ _) (Nat.gcd_dvd_right _ _)
  have ga : Nat.gcd (Nat.gcd a d) (Nat.gcd b d) ∣ a := Nat.dvd_trans (Nat.gcd_dvd_left _ _) (Nat.gcd_dvd_left _ _)
  have gb : Nat.gcd (Nat.gcd a d) (Nat.gcd b d) ∣ b := Nat.dvd_trans (Nat.gcd_dvd_right _ _) (Nat.gcd_dvd_left _ _)
  refine dvd_mul_gcd ?_ ?_ ?_ ?_
  · have e : Nat.gcd a b * Nat.lcm a b = a * b := Nat.gcd_mul_lcm a b
    rw [← e, Nat.mul_comm]
    exact Nat.mul_dvd_mul (Nat.dvd_gcd ga gb) h
  · rw [Nat.mul_comm a d]
    exact Nat.mul_dvd_mul (Nat.dvd_refl _) ga
  · exact Nat.mul_dvd_mul (Nat.dvd_refl _) gb
  · exact Nat.mul_dvd_mul (Nat.dvd_refl _) gd
theorem gcd_lcm_dvd {a b c x : Nat} (hc : 0 < c) (h1 : Nat.gcd a c ∣ x) (h2 : Nat.gcd b c ∣ x) : Nat.gcd (Nat.lcm a b) c ∣ x := by
  have hd : Nat.gcd (Nat.lcm a b) c ∣ c := Nat.gcd_dvd_right _ _
  refine dvd_of_dvd_lcm (a := a) (b := b) (Nat.gcd_pos_of_pos_right _ hc) (Nat.gcd_dvd_left _ _) ?_ ?_
  · exact Nat.dvd_trans (Nat.dvd_gcd (Nat.gcd_dvd_left _ _) (Nat.dvd_trans (Nat.gcd_dvd_right _ _) hd)) h1
  · exact Nat.dvd_trans (Nat.dvd_gcd (Nat.gcd_dvd_left _ _) (Nat.dvd_trans (Nat.gcd_dvd_right _ _) hd)) h2
theorem take_snoc {α : Type} {l : List α} {i : Nat} {x : α} (h : l[i]? = some x) : l.take (i + 1) = l.take i ++ [x] := by
  rw [List.take_add_one, h]
  rfl
theorem gcd_lcmL_dvd {ts : List Nat} {c x : Nat} (hc : 0 < c) : ∀ i, i ≤ ts.length → (∀ j t, j < i → ts[j]? = some t → Nat.gcd t c ∣ x) → Nat.gcd (lcmL (ts.take i)) c ∣ x
  | 0, _, _ => by
    rw [List.take_zero]
    show Nat.gcd 1 c ∣ x
    rw [Nat.gcd_one_left]
    exact Nat.one_dvd x
  | i + 1, hi, h => by
    have e := List.getElem?_eq_getElem (show i < ts.length from hi)
    rw [take_snoc e, lcmL_snoc]
    exact gcd_lcm_dvd hc (gcd_lcmL_dvd hc i (by omega) fun j t hj => h j t (by omega)) (h i _ (by omega) e)
/-! ### one step of the search -/
theorem lcmL_pos {ts : List Nat} (h : ∀ t ∈ ts, 1 ≤ t) : ∀ i, i ≤ ts.length → 0 < lcmL (ts.take i)
  | 0, _ => by
    rw [List.take_zero]
    exact Nat.one_pos
  | i + 1, hi => by
    have e := List.getElem?_eq_getElem (show i < ts.length from hi)
    rw [take_snoc e, lcmL_snoc]
    exact Nat.lcm_pos (lcmL_pos h i (by omega)) (h _ (List.mem_of_getElem? e))
theorem lcm_le {a b : Nat} (hb : 0 < b) (ha : 0 < a) : Nat.lcm a b ≤ a * b := by
  unfold Nat.lcm
  exact Nat.div_le_self _ _
theorem lcmL_le {ts : List Nat} (h : ∀ t ∈ ts, 1 ≤ t ∧ t ≤ 400) : ∀ i, i ≤ ts.length → lcmL (ts.take i) ≤ 400 ^ i
  | 0, _ => by
    rw [List.take_zero]
    exact Nat.le_refl _
  | i + 1, hi => by
    have e := List.getElem?_eq_getElem (show i < ts.length from hi)
    rw [take_snoc e, lcmL_snoc, Nat.pow_succ]
    have hm := h _ (List.mem_of_getElem? e)
    refine Nat.le_trans (lcm_le hm.1 (lcmL_pos (fun t ht => (h t ht).1) i (by omega))) ?_
    exact Nat.mul_le_mul (lcmL_le h i (by omega)) hm.2
/-- behind i rounds: found leaves the first i rests -/
structure Step (rs ts : List Nat) (i found step : Nat) : Prop where
  eq : step = lcmL (ts.take i)
  lt : found < step
  lv : ∀ j r t, j < i → rs[j]? = some r → ts[j]? = some t → found % t = r
theorem Step.zero (rs ts : List Nat) : Step rs ts 0 0 1 := ⟨rfl, Nat.one_pos, fun j r t h => absurd h (Nat.not_lt_zero j)⟩
theorem dvd_lcmL {ts : List Nat} : ∀ {i j t : Nat}, i ≤ ts.length → j < i → ts[j]? = some t → t ∣ lcmL (ts.take i)
  | 0, j, t, _, h, _ => absurd h (Nat.not_lt_zero j)
  | i + 1, j, t, hi, h, e => by
    have e' := List.getElem?_eq_getElem (show i < ts.length from hi)
    rw [take_snoc e', lcmL_snoc]
    by_cases hj : j < i
    · exact Nat.dvd_trans (dvd_lcmL (by omega) hj e) (Nat.dvd_lcm_left _ _)
    · have ej : j = i := by omega
      subst ej
      rw [e] at e'
      cases e'
      exact Nat.dvd_lcm_right _ _
theorem mod_dvd_sub {n t r : Nat} (h : n % t = r) : ((t : Nat) : Int) ∣ (n : Int) - r := by
  rw [← h]
  exact ⟨((n / t : Nat) : Int), by
    have e := Nat.div_add_mod n t
    have e2 : (n : Int) = (t : Int) * ((n / t : Nat) : Int) + ((n % t : Nat) : Int) := by
      rw [← Int.natCast_mul, ← Int.natCast_add, e]
    omega⟩
/-- no solution: two rests are apart -/
theorem Step.apart {rs ts : List Nat} {i found step r t : Nat} (S : Step rs ts i found step) (hi : i ≤ ts.length) (hl : rs.length = ts.length) (er : rs[i]? = some r) (et : ts[i]? = some t) (ht : 0 < t)
    (h : ¬ (((r : Int) - found) % (Nat.gcd step t : Nat) = 0)) : Apart rs ts := by
  apply Classical.byContradiction
  intro no
  apply h
  have key : Nat.gcd step t ∣ ((r : Int) - found).natAbs := by
    rw [S.eq]
    refine gcd_lcmL_dvd ht i hi fun j tj hj ej => ?_
    have hjr : j < rs.length := by
      have := (List.getElem?_eq_some_iff.mp ej).1
      omega
    have erj := List.getElem?_eq_getElem hjr
    have hz : ((r : Int) - rs[j]) % (Nat.gcd t tj : Nat) = 0 := Classical.byContradiction fun q => no ⟨i, j, r, rs[j], t, tj, hj, er, erj, et, ej, q⟩
    have d1 : ((Nat.gcd t tj : Nat) : Int) ∣ (r : Int) - rs[j] := Int.dvd_of_emod_eq_zero hz
    have d2 : ((tj : Nat) : Int) ∣ (found : Int) - rs[j] := mod_dvd_sub (S.lv j _ tj hj erj ej)
    have d3 : ((Nat.gcd t tj : Nat) : Int) ∣ (found : Int) - rs[j] := Int.dvd_trans (Int.natCast_dvd_natCast.mpr (Nat.gcd_dvd_right _ _)) d2
    have d4 : ((Nat.gcd t tj : Nat) : Int) ∣ (r : Int) - found := by
      have e : (r : Int) - found = ((r : Int) - rs[j]) - ((found : Int) - rs[j]) := by omega
      rw [e]
      exact Int.dvd_sub d1 d3
    rw [Nat.gcd_comm]
    exact Int.ofNat_dvd_left.mp d4
  exact Int.emod_eq_zero_of_dvd (Int.ofNat_dvd_left.mpr key)
/-- the next number -/
theorem Step.next {rs ts : List Nat} {i found step r t many : Nat} {q inv : Int} (S : Step rs ts i found step) (hi : i < ts.length) (hl : rs.length = ts.length) (er : rs[i]? = some r) (et : ts[i]? = some t) (ht : 0 < t) (hr : r < t)
    (hq : (r : Int) - found = (Nat.gcd step t : Nat) * q) (hinv : ((step / Nat.gcd step t : Nat) * inv - 1) % ((t / Nat.gcd step t : Nat) : Int) = 0)
    (hm : (many : Int) = (q * inv) % ((t / Nat.gcd step t : Nat) : Int)) : Step rs ts (i + 1) (found + step * many) (step / Nat.gcd step t * t) := by
  have hs : 0 < step := by
    have := S.lt
    omega
  have hg : 0 < Nat.gcd step t := Nat.gcd_pos_of_pos_right _ ht
  obtain ⟨s', es⟩ := Nat.gcd_dvd_left step t
  obtain ⟨t', et'⟩ := Nat.gcd_dvd_right step t
  generalize hgd : Nat.gcd step t = g at *
  have ds : step / g = s' := by rw [es]; exact Nat.mul_div_cancel_left s' hg
  have dt : t / g = t' := by rw [et']; exact Nat.mul_div_cancel_left t' hg
  rw [ds] at hinv ⊢
  rw [dt] at hinv hm
  have ht' : 0 < t' := by
    cases t' with
    | zero => rw [Nat.mul_zero] at et'; omega
    | succ n => exact Nat.succ_pos n
  have ht'I : (0 : Int) < (t' : Int) := by omega
  have hmt : many < t' := by
    have := Int.emod_lt_of_pos (q * inv) ht'I
    omega
  have est : s' * t = Nat.lcm step t := by
    unfold Nat.lcm
    rw [hgd, es]
    rw [Nat.mul_assoc, Nat.mul_div_cancel_left _ hg]
  have est2 : s' * t = step * t' := by
    rw [es, et']
    rw [Nat.mul_comm g s', Nat.mul_assoc]
  -- found + step * many leaves r by t
  have hmod : ((found + step * many : Nat) : Int) % (t : Int) = (r : Int) := by
    obtain ⟨k, hk⟩ : (t' : Int) ∣ s' * inv - 1 := Int.dvd_of_emod_eq_zero hinv
    have hdm : (many : Int) = q * inv - t' * (q * inv / t') := by
      rw [hm]
      have := Int.emod_add_mul_ediv (q * inv) t'
      omega
    have hs1 : (s' : Int) * many - q = t' * (q * k - s' * (q * inv / t')) := by
      have h1 : (s' : Int) * inv = 1 + t' * k := by omega
      rw [hdm, Int.mul_sub, Int.mul_sub]
      have h2 : (s' : Int) * (q * inv) = q * (s' * inv) := by
        rw [← Int.mul_assoc, Int.mul_comm (s' : Int) q, Int.mul_assoc]
      have h3 : (t' : Int) * (q * k) = q * (t' * k) := by
        rw [← Int.mul_assoc, Int.mul_comm (t' : Int) q, Int.mul_assoc]
      have h4 : (t' : Int) * (s' * (q * inv / t')) = s' * (t' * (q * inv / t')) := by
        rw [← Int.mul_assoc, Int.mul_comm (t' : Int) s', Int.mul_assoc]
      rw [h2, h3, h4, h1, Int.mul_add, Int.mul_one]
      omega
    have hs2 : ((found + step * many : Nat) : Int) = r + t * (q * k - s' * (q * inv / t')) := by
      have e1 : ((found + step * many : Nat) : Int) = found + (g : Int) * (s' * many) := by
        rw [Int.natCast_add, Int.natCast_mul, es, Int.natCast_mul, Int.mul_assoc]
      have e2 : (t : Int) * (q * k - s' * (q * inv / t')) = g * (t' * (q * k - s' * (q * inv / t'))) := by
        rw [et', Int.natCast_mul, Int.mul_assoc]
      rw [e1, e2, ← hs1, Int.mul_sub]
      omega
    rw [hs2, Int.add_mul_emod_self_left]
    exact Int.emod_eq_of_lt (by omega) (by omega)
  refine ⟨?_, ?_, fun j rj tj hj erj etj => ?_⟩
  · rw [take_snoc et, lcmL_snoc, ← S.eq]
    exact est
  · rw [est2]
    have h1 : step * many + step ≤ step * t' := by
      rw [← Nat.mul_succ]
      exact Nat.mul_le_mul_left _ hmt
    have := S.lt
    omega
  · by_cases hji : j < i
    · have d : tj ∣ step := by
        rw [S.eq]
        exact dvd_lcmL (by omega) hji etj
      obtain ⟨c, ec⟩ := d
      rw [ec, Nat.mul_assoc, Nat.add_mul_mod_self_left]
      exact S.lv j rj tj hji erj etj
    · have ej : j = i := by omega
      subst ej
      rw [er] at erj
      rw [et] at etj
      cases erj
      cases etj
      have := hmod
      rw [← Int.natCast_emod] at this
      exact Int.ofNat_inj.mp this
/-! ### the end -/
theorem ceil_ok {found step m : Nat} (h : found < step) : ∃ n c : Nat, n = found + c * step ∧ m ≤ n ∧ n < m + step ∧
    (n : Int) = (found : Int) + (if (m : Int) - found + step - 1 > 0 then (m : Int) - found + step - 1 else 0) / step * step := by
  by_cases hp : (m : Int) - found + step - 1 > 0
  · rw [if_pos hp]
    have h2 := Int.emod_add_mul_ediv ((m : Int) - found + step - 1) step
    have h3 := Int.emod_nonneg ((m : Int) - found + step - 1) (b := (step : Int)) (by omega)
    have h4 := Int.emod_lt_of_pos ((m : Int) - found + step - 1) (b := (step : Int)) (by omega)
    have h5 : 0 ≤ ((m : Int) - found + step - 1) / step := Int.ediv_nonneg (by omega) (by omega)
    generalize hd : ((m : Int) - found + step - 1) / step = d at *
    obtain ⟨c, rfl⟩ := Int.eq_ofNat_of_zero_le h5
    have e : (c : Int) * step = step * c := Int.mul_comm _ _
    refine ⟨found + c * step, c, rfl, ?_, ?_, ?_⟩
    · have : ((found + c * step : Nat) : Int) ≥ m := by
        rw [Int.natCast_add, Int.natCast_mul]
        omega
      omega
    · have : ((found + c * step : Nat) : Int) < m + step := by
        rw [Int.natCast_add, Int.natCast_mul]
        omega
      omega
    · rw [Int.natCast_add, Int.natCast_mul]
  · rw [if_neg hp, Int.zero_ediv, Int.zero_mul]
    exact ⟨found, 0, by omega, by omega, by omega, by omega⟩
theorem Step.leaves {rs ts : List Nat} {found step c : Nat} (S : Step rs ts ts.length found step) (hl : rs.length = ts.length) : Leaves rs ts (found + c * step) := by
  intro j r t er et
  have hj := (List.getElem?_eq_some_iff.mp et).1
  have d : t ∣ step := by
    rw [S.eq]
    exact dvd_lcmL (Nat.le_refl _) hj et
  obtain ⟨k, ek⟩ := d
  rw [ek, Nat.mul_comm c, Nat.mul_assoc, Nat.add_mul_mod_self_left]
  exact S.lv j r t hj er et
/-! ### one answer alone -/
theorem lcmL_dvd {ts : List Nat} {x : Nat} : ∀ i, i ≤ ts.length → (∀ j t, j < i → ts[j]? = some t → t ∣ x) → lcmL (ts.take i) ∣ x
  | 0, _, _ => by
    rw [List.take_zero]
    exact Nat.one_dvd x
  | i + 1, hi, h => by
    have e := List.getElem?_eq_getElem (show i < ts.length from hi)
    rw [take_snoc e, lcmL_snoc]
    exact Nat.lcm_dvd (lcmL_dvd i (by omega) fun j t hj => h j t (by omega)) (h i _ (by omega) e)
theorem leaves_not_apart {rs ts : List Nat} {n : Nat} (h : Leaves rs ts n) : ¬ Apart rs ts := by
  rintro ⟨i, j, ri, rj, ti, tj, hj, e1, e2, e3, e4, no⟩
  apply no
  have d1 := mod_dvd_sub (h i ri ti e1 e3)
  have d2 := mod_dvd_sub (h j rj tj e2 e4)
  have d3 : ((Nat.gcd ti tj : Nat) : Int) ∣ (n : Int) - ri := Int.dvd_trans (Int.natCast_dvd_natCast.mpr (Nat.gcd_dvd_left _ _)) d1
  have d4 : ((Nat.gcd ti tj : Nat) : Int) ∣ (n : Int) - rj := Int.dvd_trans (Int.natCast_dvd_natCast.mpr (Nat.gcd_dvd_right _ _)) d2
  have e : (ri : Int) - rj = ((n : Int) - rj) - ((n : Int) - ri) := by omega
  rw [e]
  exact Int.emod_eq_zero_of_dvd (Int.dvd_sub d4 d3)
theorem leaves_same {rs ts : List Nat} {n k m : Nat} (hl : rs.length = ts.length) (hn : Leaves rs ts n) (hk : Leaves rs ts k) (h1 : m ≤ n) (h2 : n < m + lcmL ts) (h3 : m ≤ k) (h4 : k < m + lcmL ts) : n = k := by
  have d : ∀ (a b : Nat), Leaves rs ts a → Leaves rs ts b → a ≤ b → lcmL ts ∣ b - a := fun a b ha hb hab => by
    have := lcmL_dvd (ts := ts) (x := b - a) ts.length (Nat.le_refl _) fun j t hj et => by
      have hjr : j < rs.length := by omega
      have er := List.getElem?_eq_getElem hjr
      have e1 := ha j _ t er et
      have e2 := hb j _ t er et
      exact Nat.dvd_of_mod_eq_zero (Nat.sub_mod_eq_zero_of_mod_eq (e2.trans e1.symm))
    rwa [List.take_length] at this
  rcases Nat.le_total n k with h | h
  · have q := d n k hn hk h
    have z : k - n = 0 := Nat.eq_zero_of_dvd_of_lt q (by omega)
    omega
  · have q := d k n hk hn h
    have z : n - k = 0 := Nat.eq_zero_of_dvd_of_lt q (by omega)
    omega
theorem LW.same {rs ts : List Nat} {m : Nat} (hl : rs.length = ts.length) : ∀ {o o' : Option Nat}, LW rs ts m o → LW rs ts m o' → o = o'
  | none, none, _, _ => rfl
  | none, some k, h, h' => absurd h (leaves_not_apart h'.1)
  | some n, none, h, h' => absurd h' (leaves_not_apart h.1)
  | some n, some k, h, h' => congrArg some (leaves_same hl h.1 h'.1 h.2.1 h.2.2 h'.2.1 h'.2.2)
end M78
set_option Elab.async false
set_option linter.all false
set_option maxRecDepth 100000
set_option maxHeartbeats 4000000
/-! the law's feed of digits: a dict of cells, at, left -/
namespace Fd
open PySem PySem.Spec PyProof.Rows L2
def feedK (l : Addr) (a f : Int) : List (Key × V) := [(Sum.inr ("cells" : Str), .ref l), (Sum.inr ("at" : Str), .int a), (Sum.inr ("left" : Str), .int f)]
theorem n1 : ¬ ((Sum.inr ("cells" : Str) : Key) = Sum.inr ("at" : Str)) := fun e => absurd (Sum.inr.inj e) (by decide +kernel)
theorem n2 : ¬ ((Sum.inr ("cells" : Str) : Key) = Sum.inr ("left" : Str)) := fun e => absurd (Sum.inr.inj e) (by decide +kernel)
theorem n3 : ¬ ((Sum.inr ("at" : Str) : Key) = Sum.inr ("left" : Str)) := fun e => absurd (Sum.inr.inj e) (by decide +kernel)
variable {l : Addr} {a f : Int}
theorem get_cells : valV (feedK l a f) (Sum.inr ("cells" : Str)) = some (.ref l) := valV_pos rfl
theorem get_at : valV (feedK l a f) (Sum.inr ("at" : Str)) = some (.int a) := by
  unfold feedK
  rw [valV_neg n1, valV_pos rfl]
theorem get_left : valV (feedK l a f) (Sum.inr ("left" : Str)) = some (.int f) := by
  unfold feedK
  rw [valV_neg n2, valV_neg n3, valV_pos rfl]
theorem put_at (b : Int) : putK (feedK l a f) (Sum.inr ("at" : Str)) (.int b) = feedK l b f := by
  unfold putK
  rw [valV_any, get_at, if_pos (show (some (V.int a)).isSome = true from rfl)]
  unfold feedK
  simp only [List.map_cons, List.map_nil]
  rw [if_neg n1, if_pos trivial, if_neg (fun e => n3 e.symm)]
theorem put_left (b : Int) : putK (feedK l a f) (Sum.inr ("left" : Str)) (.int b) = feedK l a b := by
  unfold putK
  rw [valV_any, get_left, if_pos (show (some (V.int f)).isSome = true from rfl)]
  unfold feedK
  simp only [List.map_cons, List.map_nil]
  rw [if_neg n2, if_neg n3, if_pos trivial]
/-- the feed stands at d, its cells at l; at most n cells were gone through -/
structure FeedAt (H : Hp) (d l : Addr) (cs : List Int) (n : Nat) : Prop where
  dc : ∃ (a : Nat) (f : Int), a ≤ n ∧ H d = some (.dK (feedK l a f))
  ls : H l = some (.lst (cs.map V.int))
  len : cs.length ≤ 63
/-- all but d is as it was -/
def Keep (d : Addr) (H H' : Hp) : Prop := ∀ b o, H b = some o → b ≠ d → H' b = some o
theorem Keep.refl (d : Addr) (H : Hp) : Keep d H H := fun _ _ h _ => h
theorem Keep.trans {d : Addr} {H H1 H2 : Hp} (x : Keep d H H1) (y : Keep d H1 H2) : Keep d H H2 := fun b o h n => y b o (x b o h n) n
theorem Keep.of_same {d : Addr} {H H' : Hp} (x : Same H H') : Keep d H H' := fun b o h _ => x b o h
theorem keep_upd {d : Addr} {H : Hp} {o : HO} : Keep d H (upd H d o) := fun b u h n => by
  rw [upd_ne n]
  exact h
theorem same_new {H : Hp} {p : Addr} {o : HO} (h : H p = none) : Same H (upd H p o) := fun b x e => by
  rw [upd_ne (ne_of_none e h)]
  exact e
theorem keep_new {d : Addr} {H : Hp} {p : Addr} {o : HO} (h : H p = none) : Keep d H (upd H p o) := .of_same (same_new h)
section
variable {H H' : Hp} {d : Addr} {cs : List Int} {n m : Nat} {K : PySem.W.Frag}
theorem FeedAt.mono (F : FeedAt H d l cs n) (h : n ≤ m) : FeedAt H d l cs m := by
  obtain ⟨⟨a, f, ha, e⟩, q, z⟩ := F
  exact ⟨⟨a, f, Nat.le_trans ha h, e⟩, q, z⟩
theorem FeedAt.same (F : FeedAt H d l cs n) (s : Same H H') : FeedAt H' d l cs n := by
  obtain ⟨⟨a, f, ha, e⟩, q, z⟩ := F
  exact ⟨⟨a, f, ha, s _ _ e⟩, s _ _ q, z⟩
theorem FeedAt.seq (F : FeedAt H d l cs n) (k : Keep d H H') {b : Addr} {xs : List V} (h : SqL K H b xs) : SqL K H' b xs := by
  obtain ⟨⟨a, f, ha, e⟩, q, z⟩ := F
  rcases h with (h | ⟨o, h⟩) | h
  · exact .inl (.inl (k _ _ h (ne_of h e (by intro z; cases z))))
  · exact .inl (.inr ⟨o, k _ _ h (ne_of h e (by intro z; cases z))⟩)
  · exact .inr h
theorem FeedAt.lst (F : FeedAt H d l cs n) (k : Keep d H H') {b : Addr} {xs : List V} (h : H b = some (.lst xs)) : H' b = some (.lst xs) := by
  obtain ⟨⟨a, f, ha, e⟩, q, z⟩ := F
  exact k _ _ h (ne_of h e (by intro z; cases z))
theorem FeedAt.ne (F : FeedAt H d l cs n) : l ≠ d := by
  obtain ⟨⟨a, f, ha, e⟩, q, z⟩ := F
  exact ne_of q e (by intro z; cases z)
theorem FeedAt.new (F : FeedAt H d l cs n) {b : Addr} (h : H b = none) : d ≠ b ∧ l ≠ b := by
  obtain ⟨⟨a, f, ha, e⟩, q, z⟩ := F
  exact ⟨ne_of_none e h, ne_of_none q h⟩
end
theorem dg_cells {H : Hp} {d : Addr} (e : H d = some (.dK (feedK l a f))) : DGet H d (.str ("cells" : Str)) (some (.ref l)) := by
  have := DGet.k (k := Sum.inr ("cells" : Str)) e
  rwa [get_cells] at this
theorem dg_at {H : Hp} {d : Addr} (e : H d = some (.dK (feedK l a f))) : DGet H d (.str ("at" : Str)) (some (.int a)) := by
  have := DGet.k (k := Sum.inr ("at" : Str)) e
  rwa [get_at] at this
theorem dg_left {H : Hp} {d : Addr} (e : H d = some (.dK (feedK l a f))) : DGet H d (.str ("left" : Str)) (some (.int f)) := by
  have := DGet.k (k := Sum.inr ("left" : Str)) e
  rwa [get_left] at this
theorem dp_at {H : Hp} {d : Addr} {b : Int} (e : H d = some (.dK (feedK l a f))) : DPut H d (.str ("at" : Str)) (.int b) (upd H d (.dK (feedK l b f))) := by
  have := DPut.k (k := Sum.inr ("at" : Str)) (v := .int b) e (show 3 < sizeLine by decide)
  rwa [put_at] at this
theorem dp_left {H : Hp} {d : Addr} {b : Int} (e : H d = some (.dK (feedK l a f))) : DPut H d (.str ("left" : Str)) (.int b) (upd H d (.dK (feedK l a b))) := by
  have := DPut.k (k := Sum.inr ("left" : Str)) (v := .int b) e (show 3 < sizeLine by decide)
  rwa [put_left] at this
/-- lists of ints as data -/
theorem dp_ints {K : PySem.W.Frag} {H : Hp} : ∀ ns : List Int, DpAll K H (ns.map V.int) (ns.map PyData.int)
  | [] => .nil
  | n :: ns => .cons (.int n) (dp_ints ns)
theorem eqv_nil (ns : List Int) : PyData.eqv (.list (ns.map PyData.int)) (.list []) = ns.isEmpty := by
  cases ns with
  | nil => simp [PyData.eqv, PyData.eqvAll]
  | cons n ns => simp [PyData.eqv, PyData.eqvAll]
/-- spDraw: a digit below m -/
def spDraw : Sp := fun vs H Q _ => ∃ (d l : Addr) (cs : List Int) (n : Nat) (m : Int), vs = [.ref d, .int m] ∧ FeedAt H d l cs n ∧ n ≤ 1000000 ∧ 0 < m ∧ m < 2 ^ 64 ∧
  ∀ (r : Nat) (H' : Hp), (r : Int) < m → FeedAt H' d l cs (n + 1) → Keep d H H' → Q (.int r) H'
/-- spPick: one of the items -/
def spPick (K : PySem.W.Frag) : Sp := fun vs H Q _ => ∃ (d l p : Addr) (cs : List Int) (n : Nat) (xs : List V), vs = [.ref d, .ref p] ∧ FeedAt H d l cs n ∧ n ≤ 1000000 ∧ SqL K H p xs ∧ 0 < xs.length ∧ xs.length < 1000 ∧
  ∀ (x : V) (H' : Hp), x ∈ xs → FeedAt H' d l cs (n + 1) → Keep d H H' → Q x H'
/-- spFeed: a new feed of the script -/
def spFeed (K : PySem.W.Frag) : Sp := fun vs H Q _ => ∃ (p : Addr) (ns : List Int), vs = [.ref p] ∧ SqL K H p (ns.map V.int) ∧ ns.length ≤ 63 ∧
  ∀ (d l : Addr) (cs : List Int) (H' : Hp), H d = none → H l = none → FeedAt H' d l cs 0 → Same H H' → Q (.ref d) H'
theorem iteY {c A B : Prop} [Decidable c] (h : c) (a : A) : if decide c = true then A else B := by
  rw [decide_eq_true h]
  exact iteT a
theorem iteN {c A B : Prop} [Decidable c] (h : ¬ c) (b : B) : if decide c = true then A else B := by
  rw [decide_eq_false h]
  exact iteF b
theorem iteNY {c A B : Prop} [Decidable c] (h : ¬ c) (a : A) : if (!decide c) = true then A else B := by
  rw [decide_eq_false h]
  exact iteT a
/-- the step of a draw as arithmetic -/
theorem digit {x m : Int} (h : 0 < m) : ∃ r : Nat, (r : Int) = x % m ∧ (r : Int) < m := by
  obtain ⟨r, e⟩ := Int.eq_ofNat_of_zero_le (Int.emod_nonneg x (show m ≠ 0 by omega))
  refine ⟨r, e.symm, ?_⟩
  have := Int.emod_lt_of_pos x h
  omega
end Fd
set_option Elab.async false
set_option linter.all false
set_option maxRecDepth 100000
set_option maxHeartbeats 4000000
namespace K78
open PySem PySem.Spec PyProof.Rows L2 Fd
def topS (i : Nat) : Stmt := PySem.Challenge.pw_bandprint_k78_numbers_that_leave_rests.main.body.getD i (.Pass ⟨0, 0, 0, 0⟩)
abbrev s_divisor : Stmt := topS 1
abbrev s_inverse_by : Stmt := topS 2
abbrev s_least_with : Stmt := topS 3
abbrev s__law_feed : Stmt := topS 5
abbrev s__law_draw : Stmt := topS 6
abbrev s__law_pick : Stmt := topS 7
abbrev s__law_gcd : Stmt := topS 8
abbrev s__law_turn : Stmt := topS 9
abbrev s__law_all_apart : Stmt := topS 10
abbrev s_law : Stmt := topS 11
/-- where the defs stand -/
structure Fs where
  f_divisor : Addr
  d_divisor : FuncData
  f_inverse_by : Addr
  d_inverse_by : FuncData
  f_least_with : Addr
  d_least_with : FuncData
  v_least_with : List Value
  f__law_feed : Addr
  d__law_feed : FuncData
  f__law_draw : Addr
  d__law_draw : FuncData
  f__law_pick : Addr
  d__law_pick : FuncData
  f__law_gcd : Addr
  d__law_gcd : FuncData
  f__law_turn : Addr
  d__law_turn : FuncData
  f__law_all_apart : Addr
  d__law_all_apart : FuncData
structure Txt (K : PySem.W.Frag) (mg : Str → Option Value) (B : Fs) : Prop where
  F_divisor : Fun K "divisor" "divisor" s_divisor B.f_divisor B.d_divisor
  m_divisor : mg "divisor" = some (.ref B.f_divisor)
  b_divisor : Binds K B.d_divisor ["one", "other"] []
  F_inverse_by : Fun K "inverse_by" "inverse_by" s_inverse_by B.f_inverse_by B.d_inverse_by
  m_inverse_by : mg "inverse_by" = some (.ref B.f_inverse_by)
  b_inverse_by : Binds K B.d_inverse_by ["one", "turn"] []
  F_least_with : FunD K "least_with" "least_with" (defArgs s_least_with) (defBody s_least_with) (defScope s_least_with) [] [("least", .int 0)] B.f_least_with B.d_least_with
  m_least_with : mg "least_with" = some (.ref B.f_least_with)
  vv_least_with : Vals [.int 0] B.v_least_with
  b_least_with : Binds K B.d_least_with ["rests", "rounds", "least"] B.v_least_with
  kb_least_with : KBn K B.d_least_with ["rests", "rounds", "least"] 2 ["least"] (fun us ws => us ++ ws) (fun vs zs => vs ++ zs)
  F__law_feed : Fun K "_law_feed" "_law_feed" s__law_feed B.f__law_feed B.d__law_feed
  m__law_feed : mg "_law_feed" = some (.ref B.f__law_feed)
  b__law_feed : Binds K B.d__law_feed ["_law_script"] []
  F__law_draw : Fun K "_law_draw" "_law_draw" s__law_draw B.f__law_draw B.d__law_draw
  m__law_draw : mg "_law_draw" = some (.ref B.f__law_draw)
  b__law_draw : Binds K B.d__law_draw ["_law_feed_here", "_law_many"] []
  F__law_pick : Fun K "_law_pick" "_law_pick" s__law_pick B.f__law_pick B.d__law_pick
  m__law_pick : mg "_law_pick" = some (.ref B.f__law_pick)
  b__law_pick : Binds K B.d__law_pick ["_law_feed_here", "_law_some"] []
  F__law_gcd : Fun K "_law_gcd" "_law_gcd" s__law_gcd B.f__law_gcd B.d__law_gcd
  m__law_gcd : mg "_law_gcd" = some (.ref B.f__law_gcd)
  b__law_gcd : Binds K B.d__law_gcd ["_law_one", "_law_other"] []
  F__law_turn : Fun K "_law_turn" "_law_turn" s__law_turn B.f__law_turn B.d__law_turn
  m__law_turn : mg "_law_turn" = some (.ref B.f__law_turn)
  b__law_turn : Binds K B.d__law_turn ["_law_feed_here"] []
  F__law_all_apart : Fun K "_law_all_apart" "_law_all_apart" s__law_all_apart B.f__law_all_apart B.d__law_all_apart
  m__law_all_apart : mg "_law_all_apart" = some (.ref B.f__law_all_apart)
  b__law_all_apart : Binds K B.d__law_all_apart ["_law_rests", "_law_turns"] []
  z_len : mg "len" = none
  z_abs : mg "abs" = none
  z_max : mg "max" = none
  z_zip : mg "zip" = none
  z_range : mg "range" = none
  z_tuple : mg "tuple" = none
section
variable {P : Program} {w : World} {K : PySem.W.Frag} {mg : Str → Option Value} {base : Heap} {B : Fs} {k : Nat}
/-! ### divisor, _law_gcd -/
def spGcd : Sp := fun vs H Q _ => ∃ (a b : Nat), vs = [.int a, .int b] ∧ Q (.int (Nat.gcd a b : Nat)) H
abbrev N_divisor : List Str := ["one", "other"]
theorem sc_divisor : FnScope N_divisor ["one", "other"] (defScope s_divisor) :=
  ⟨rfl, rfl, rfl, by decide +kernel, rfl, by decide +kernel, by decide +kernel⟩
theorem ok_divisor (T : Txt K mg B) : FnOk P w K mg base CX0 (k + 1) B.f_divisor B.d_divisor ["one", "other"] spGcd := by
  refine T.F_divisor.ok sc_divisor (fun vs H Q E h => ?_) (fun cdv A outer s H vs Q E hr h => ?_)
  · obtain ⟨a, b, rfl, _⟩ := h
    rfl
  · obtain ⟨a, b, rfl, q⟩ := h
    have nd := sc_divisor.nd
    refine ⟨_, (pss_cons (ps_while PassesOwn.never (pt_cmpR op_ne (pv 1) pe_int (nomark _))
          (pss_one (ps_par (i := 0) (j := 1) (by rfl) nd rfl rfl (by decide) rfl rfl (pa_cons (pv 1) (pa_cons (pe_op op_mod (pv 0) (pv 1)) pa_nil)) (by rfl))))
      (pss_one (ps_ret (pv 0)))), ?_⟩
    refine ⟨fun m σ H1 => ∃ c : Nat, σ = [some (.int c), some (.int m)] ∧ H1 = H ∧ Nat.gcd c m = Nat.gcd a b, ⟨b, a, rfl, rfl, rfl⟩, ?_⟩
    rintro m σ H1 ⟨c, rfl, rfl, e⟩
    refine ⟨_, rfl, rfl, _, rfl, ?_⟩
    cases m with
    | zero =>
      refine iteF ⟨_, rfl, ?_⟩
      rw [← e, Nat.gcd_zero_right] at q
      exact q
    | succ m =>
      refine iteT ⟨fun σ' H' => ∃ c' m' : Nat, m' < m + 1 ∧ σ' = [some (.int c'), some (.int m')] ∧ H' = H1 ∧ Nat.gcd c' m' = Nat.gcd a b, fun σ' H' ⟨c', m', hm, e1, e2, e3⟩ => ⟨m', hm, c', e1, e2, e3⟩, ?_⟩
      refine ⟨_, rfl, _, rfl, _, rfl, _, _, rfl, rfl, ?_, _, _, rfl, ?_⟩
      · show (0 : Int) < ((m + 1 : Nat) : Int)
        omega
      · exact ⟨m + 1, c % (m + 1), Nat.mod_lt _ (Nat.succ_pos m), rfl, rfl, by rw [← e, Nat.gcd_comm c (m + 1), Nat.gcd_rec (m + 1) c, Nat.gcd_comm]⟩
abbrev N__law_gcd : List Str := ["_law_one", "_law_other"]
theorem sc__law_gcd : FnScope N__law_gcd ["_law_one", "_law_other"] (defScope s__law_gcd) :=
  ⟨rfl, rfl, rfl, by decide +kernel, rfl, by decide +kernel, by decide +kernel⟩
theorem ok__law_gcd (T : Txt K mg B) : FnOk P w K mg base CX0 (k + 1) B.f__law_gcd B.d__law_gcd ["_law_one", "_law_other"] spGcd := by
  refine T.F__law_gcd.ok sc__law_gcd (fun vs H Q E h => ?_) (fun cdv A outer s H vs Q E hr h => ?_)
  · obtain ⟨a, b, rfl, _⟩ := h
    rfl
  · obtain ⟨a, b, rfl, q⟩ := h
    have nd := sc__law_gcd.nd
    refine ⟨_, (pss_cons (ps_while PassesOwn.never (pt_cmpR op_gt (pv 1) pe_int (nomark _))
          (pss_one (ps_par (i := 0) (j := 1) (by rfl) nd rfl rfl (by decide) rfl rfl (pa_cons (pv 1) (pa_cons (pe_op op_mod (pv 0) (pv 1)) pa_nil)) (by rfl))))
      (pss_one (ps_ret (pv 0)))), ?_⟩
    refine ⟨fun m σ H1 => ∃ c : Nat, σ = [some (.int c), some (.int m)] ∧ H1 = H ∧ Nat.gcd c m = Nat.gcd a b, ⟨b, a, rfl, rfl, rfl⟩, ?_⟩
    rintro m σ H1 ⟨c, rfl, rfl, e⟩
    refine ⟨_, rfl, _, _, rfl, rfl, _, rfl, ?_⟩
    cases m with
    | zero =>
      refine iteF ⟨_, rfl, ?_⟩
      rw [← e, Nat.gcd_zero_right] at q
      exact q
    | succ m =>
      refine iteY (by omega) ⟨fun σ' H' => ∃ c' m' : Nat, m' < m + 1 ∧ σ' = [some (.int c'), some (.int m')] ∧ H' = H1 ∧ Nat.gcd c' m' = Nat.gcd a b, fun σ' H' ⟨c', m', hm, e1, e2, e3⟩ => ⟨m', hm, c', e1, e2, e3⟩, ?_⟩
      refine ⟨_, rfl, _, rfl, _, rfl, _, _, rfl, rfl, ?_, _, _, rfl, ?_⟩
      · show (0 : Int) < ((m + 1 : Nat) : Int)
        omega
      · exact ⟨m + 1, c % (m + 1), Nat.mod_lt _ (Nat.succ_pos m), rfl, rfl, by rw [← e, Nat.gcd_comm c (m + 1), Nat.gcd_rec (m + 1) c, Nat.gcd_comm]⟩
/-! ### inverse_by -/
def spInv : Sp := fun vs H Q _ => ∃ (a t : Nat), vs = [.int a, .int t] ∧ a < 2 ^ 62 ∧ 0 < t ∧ t < 2 ^ 30 ∧ Nat.gcd a t = 1 ∧
  ∀ r : Nat, r < t → ((a : Int) * r - 1) % (t : Int) = 0 → Q (.int r) H
abbrev N_inverse_by : List Str := ["one", "turn", "other", "found", "later", "many"]
theorem sc_inverse_by : FnScope N_inverse_by ["one", "turn"] (defScope s_inverse_by) :=
  ⟨rfl, rfl, rfl, by decide +kernel, rfl, by decide +kernel, by decide +kernel⟩
theorem inv_end {a t : Nat} {x : Int} {r : Nat} (ht : 0 < t) (h : (t : Int) ∣ x * a - 1) (hr : (r : Int) = x % t) : ((a : Int) * r - 1) % (t : Int) = 0 := by
  refine Int.emod_eq_zero_of_dvd ?_
  have e := Int.emod_add_mul_ediv x t
  have e2 : (a : Int) * r - 1 = (x * a - 1) - t * (a * (x / t)) := by
    have e3 : (r : Int) = x - t * (x / t) := by omega
    have e4 : (t : Int) * (a * (x / t)) = a * (t * (x / t)) := by
      rw [← Int.mul_assoc, Int.mul_comm (t : Int) a, Int.mul_assoc]
    rw [e3, Int.mul_sub, e4, Int.mul_comm x a]
    omega
  rw [e2]
  exact Int.dvd_sub h ⟨_, rfl⟩
theorem inv_turn {a t c m : Nat} {x y : Int} (h1 : (t : Int) ∣ x * a - c) (h2 : (t : Int) ∣ y * a - m) :
    (t : Int) ∣ (x - (c : Int) / m * y) * a - ((c : Int) - (c : Int) / m * m) := by
  have e : (x - (c : Int) / m * y) * a - ((c : Int) - (c : Int) / m * m) = (x * a - c) - (c : Int) / m * (y * a - m) := by
    rw [Int.sub_mul, Int.mul_sub, Int.mul_assoc]
    omega
  rw [e]
  exact Int.dvd_sub h1 (Int.dvd_mul_of_dvd_right h2)
theorem ok_inverse_by (T : Txt K mg B) : FnOk P w K mg base CX0 (k + 1) B.f_inverse_by B.d_inverse_by ["one", "turn"] spInv := by
  refine T.F_inverse_by.ok sc_inverse_by (fun vs H Q E h => ?_) (fun cdv A outer s H vs Q E hr h => ?_)
  · obtain ⟨a, t, rfl, _⟩ := h
    rfl
  · obtain ⟨a, t, rfl, ha, ht, ht2, hg, q⟩ := h
    have nd := sc_inverse_by.nd
    refine ⟨_, (pss_cons (ps_par3 (i := 2) (j := 3) (l := 4) (by rfl) nd rfl rfl rfl (by decide) (by decide) (by decide) rfl rfl rfl (pa_cons (pv 1) (pa_cons pe_int (pa_cons pe_int pa_nil))) (by rfl))
      (pss_cons (ps_while PassesOwn.never (pt_cmpR op_ne (pv 2) pe_int (nomark _))
          (pss_cons (ps_set (i := 5) nd rfl (.inl rfl) (pe_op op_fdiv (pv 0) (pv 2)))
            (pss_cons (ps_par (i := 0) (j := 2) (by rfl) nd rfl rfl (by decide) rfl rfl (pa_cons (pv 2) (pa_cons (pe_op op_sub (pv 0) (pe_op op_mul (pv 5) (pv 2))) pa_nil)) (by rfl))
            (pss_one (ps_par (i := 3) (j := 4) (by rfl) nd rfl rfl (by decide) rfl rfl (pa_cons (pv 4) (pa_cons (pe_op op_sub (pv 3) (pe_op op_mul (pv 5) (pv 4))) pa_nil)) (by rfl))))))
      (pss_one (ps_ret (pe_op op_mod (pv 3) (pv 1)))))), ?_⟩
    refine ⟨_, rfl, _, _, _, rfl, ?_⟩
    refine ⟨fun m σ H1 => ∃ (c : Nat) (x y : Int) (z : Option V), σ = [some (.int c), some (.int t), some (.int m), some (.int x), some (.int y), z] ∧ H1 = H ∧ Nat.gcd c m = 1 ∧ c < 2 ^ 62 ∧ m < 2 ^ 30 ∧
      (t : Int) ∣ x * a - c ∧ (t : Int) ∣ y * a - m, ⟨t, a, 1, 0, none, rfl, rfl, hg, ha, ht2, ⟨0, by omega⟩, ⟨-1, by omega⟩⟩, ?_⟩
    rintro m σ H1 ⟨c, x, y, z, rfl, rfl, hcm, hc, hm, d1, d2⟩
    refine ⟨_, rfl, rfl, _, rfl, ?_⟩
    cases m with
    | zero =>
      rw [Nat.gcd_zero_right] at hcm
      subst hcm
      refine iteF ⟨_, rfl, _, rfl, _, _, rfl, rfl, (by show (0 : Int) < (t : Int); omega), ?_⟩
      obtain ⟨r, er, hr'⟩ := digit (x := x) (m := (t : Int)) (by omega)
      have z := q r (by omega) (inv_end ht d1 er)
      rw [er] at z
      exact z
    | succ m =>
      refine iteT ⟨fun σ' H' => ∃ m' : Nat, m' < m + 1 ∧ ∃ (c : Nat) (x y : Int) (z : Option V), σ' = [some (.int c), some (.int t), some (.int m'), some (.int x), some (.int y), z] ∧ H' = H1 ∧ Nat.gcd c m' = 1 ∧ c < 2 ^ 62 ∧ m' < 2 ^ 30 ∧
        (t : Int) ∣ x * a - c ∧ (t : Int) ∣ y * a - m', fun σ' H' ⟨m', hm', r⟩ => ⟨m', hm', r⟩, ?_⟩
      have hd0 : (0 : Int) ≤ (c : Int) / ((m + 1 : Nat) : Int) := Int.ediv_nonneg (by omega) (by omega)
      have hd1 : (c : Int) / ((m + 1 : Nat) : Int) ≤ c := Int.ediv_le_self _ (by omega)
      refine ⟨_, rfl, _, rfl, _, _, rfl, rfl, ⟨?_, ?_⟩, ?_⟩
      · show (0 : Int) < ((m + 1 : Nat) : Int)
        omega
      · show ((m + 1 : Nat) : Int) < 1073741824
        omega
      · refine ⟨_, rfl, _, rfl, _, rfl, _, rfl, _, _, rfl, rfl, .inl ⟨?_, ?_⟩, _, _, rfl, rfl, _, _, rfl, ?_⟩
        · show -(2 ^ 64) < (c : Int) / ((m + 1 : Nat) : Int)
          omega
        · show (c : Int) / ((m + 1 : Nat) : Int) < 2 ^ 64
          omega
        · refine ⟨_, rfl, _, rfl, _, rfl, _, rfl, _, _, rfl, rfl, .inl ⟨?_, ?_⟩, _, _, rfl, rfl, _, _, rfl, ?_⟩
          · show -(2 ^ 64) < (c : Int) / ((m + 1 : Nat) : Int)
            omega
          · show (c : Int) / ((m + 1 : Nat) : Int) < 2 ^ 64
            omega
          · have e : (c : Int) - (c : Int) / ((m + 1 : Nat) : Int) * ((m + 1 : Nat) : Int) = ((c % (m + 1) : Nat) : Int) := by
              have := Int.emod_add_mul_ediv (c : Int) ((m + 1 : Nat) : Int)
              rw [Int.natCast_emod, Int.mul_comm]
              omega
            have d3 := inv_turn d1 d2
            rw [e] at d3
            refine ⟨c % (m + 1), Nat.mod_lt _ (Nat.succ_pos m), m + 1, y, _, some (.int ((c : Int) / ((m + 1 : Nat) : Int))), ?_, rfl, ?_, by omega, ?_, d2, d3⟩
            · rw [← e]
              rfl
            · refine Eq.trans ?_ hcm
              rw [Nat.gcd_comm c (m + 1), Nat.gcd_rec (m + 1) c, Nat.gcd_comm]
            · exact Nat.lt_trans (Nat.mod_lt _ (Nat.succ_pos m)) hm
end
end K78
set_option Elab.async false
set_option linter.all false
set_option maxRecDepth 100000
set_option maxHeartbeats 4000000
namespace K78
open PySem PySem.Spec PyProof.Rows L2 Fd
section
variable {P : Program} {w : World} {K : PySem.W.Frag} {mg : Str → Option Value} {base : Heap} {B : Fs} {k : Nat}
/-! ### _law_draw -/
abbrev N__law_draw : List Str := ["_law_feed_here", "_law_many", "_law_digit", "_law_at", "_law_cell", "_law_mixed"]
theorem sc__law_draw : FnScope N__law_draw ["_law_feed_here", "_law_many"] (defScope s__law_draw) :=
  ⟨rfl, rfl, rfl, by decide +kernel, rfl, by decide +kernel, by decide +kernel⟩
theorem div64 {i m : Int} (h : 0 < m) (h2 : m < 2 ^ 64) : CDivW i m := wide_div (b := 64) h (by omega) (by decide) (by decide)
theorem ok__law_draw (T : Txt K mg B) : FnOk P w K mg base CX0 (k + 1) B.f__law_draw B.d__law_draw ["_law_feed_here", "_law_many"] spDraw := by
  refine T.F__law_draw.ok sc__law_draw (fun vs H Q E h => ?_) (fun cdv A outer s H vs Q E hr h => ?_)
  · obtain ⟨d, l, cs, n, m, rfl, _⟩ := h
    rfl
  · obtain ⟨d, l, cs, n, m, rfl, F, hn, hm, hm2, q⟩ := h
    obtain ⟨⟨a, f, ha, e⟩, hl, hlen⟩ := id F
    have hu := hu_of hr
    have nd := sc__law_draw.nd
    refine ⟨_, (pss_cons (ps_if (pt_cmpR op_gt (pe_dget hu (pv 0) pe_str (fun _ _ => rfl)) pe_int (nomark _))
          (pss_cons (ps_set (i := 2) nd rfl (.inl rfl) (pe_op op_mod (pe_dget hu (pv 0) pe_str (fun _ _ => rfl)) (pv 1)))
            (pss_cons (ps_dput hu (pv 0) pe_str (pe_op op_fdivW (pe_dget hu (pv 0) pe_str (fun _ _ => rfl)) (pv 1)) rfl)
            (pss_one (ps_ret (pv 2)))))
          pss_nil)
      (pss_cons (ps_set (i := 3) nd rfl (.inl rfl) (pe_dget hu (pv 0) pe_str (fun _ _ => rfl)))
      (pss_cons (ps_dput hu (pv 0) pe_str (pe_op op_add (pv 3) pe_int) rfl)
      (pss_cons (ps_set (i := 4) nd rfl (.inl rfl) (pe_op op_add (pe_op op_add (pe_op op_mul (pe_op op_mul pe_int (pv 3)) (pv 3)) (pe_op op_mul pe_int (pv 3))) pe_int))
      (C8.pss_cut (ps_if (pt_cmpR (op_neD hr.units) (pe_dget hu (pv 0) pe_str (fun _ _ => rfl)) (pe_lst pa_nil) (nomark _))
          (pss_one (ps_set (i := 4) nd rfl (.inl rfl) (pe_op op_add (pv 4) (pe_ix ix_list (pe_dget hu (pv 0) pe_str (fun _ _ => rfl)) (pe_op op_mod (pv 3) (pe_callB call_len_seq (by rfl) T.z_len (by decide +kernel) (pa_cons (pe_dget hu (pv 0) pe_str (fun _ _ => rfl)) pa_nil))) (fun _ _ => rfl)))))
          pss_nil)
      (C8.pss_cut (ps_if (PW.pt (pw_and (pt_cmpR op_lt (pv 3) (pe_callB call_len_seq (by rfl) T.z_len (by decide +kernel) (pa_cons (pe_dget hu (pv 0) pe_str (fun _ _ => rfl)) pa_nil)) (nomark _)) (pw_and1 (pt_cmpR op_ge (pe_callB call_abs (by rfl) T.z_abs (by decide +kernel) (pa_cons (pv 4) pa_nil)) (pe_op op_pow pe_int pe_int) (nomark _)))))
          (pss_cons (ps_dput hu (pv 0) pe_str (pe_op op_fdivW (pe_op op_sub (pe_callB call_abs (by rfl) T.z_abs (by decide +kernel) (pa_cons (pv 4) pa_nil)) (pe_op op_pow pe_int pe_int)) (pv 1)) rfl)
            (pss_one (ps_ret (pe_op op_mod (pe_op op_sub (pe_callB call_abs (by rfl) T.z_abs (by decide +kernel) (pa_cons (pv 4) pa_nil)) (pe_op op_pow pe_int pe_int)) (pv 1)))))
          pss_nil)
      (pss_cons (ps_set (i := 5) nd rfl (.inl rfl) (pe_op op_mod (pe_op op_add (pe_op op_mul (pv 4) pe_int) (pe_op op_mul pe_int (pe_op op_add (pv 3) pe_int))) pe_int))
      (pss_cons (ps_set (i := 5) nd rfl (.inl rfl) (pe_op op_mod (pe_op op_mul (pv 5) (pe_op op_add (pv 5) pe_int)) pe_int))
      (pss_one (ps_ret (pe_op op_mod (pe_op op_fdivW (pv 5) pe_int) (pv 1)))))))))))), ?_⟩
    -- if feed["left"] > 0
    refine ⟨_, rfl, d, _, rfl, dg_left e, _, _, rfl, rfl, _, rfl, ite2 (fun c => ?_) (fun c => ?_)⟩
    · refine ⟨_, rfl, d, _, rfl, dg_left e, _, rfl, _, _, rfl, rfl, hm, ?_⟩
      refine ⟨_, rfl, d, _, rfl, dg_left e, _, rfl, _, _, rfl, rfl, div64 hm hm2, _, rfl, d, _, rfl, dp_left e, ?_⟩
      refine ⟨_, rfl, ?_⟩
      obtain ⟨r, er, hr'⟩ := digit (x := f) hm
      have z := q r (upd H d (.dK (feedK l a (f / m)))) hr' ⟨⟨a, _, by omega, upd_same⟩, by rw [upd_ne F.ne]; exact hl, hlen⟩ keep_upd
      rw [er] at z
      exact z
    · -- at
      refine ⟨_, rfl, d, _, rfl, dg_at e, ?_⟩
      refine ⟨_, rfl, _, _, rfl, rfl, _, rfl, d, _, rfl, dp_at e, ?_⟩
      have e1 : (upd H d (.dK (feedK l ((a : Int) + 1) f))) d = some (.dK (feedK l ((a : Int) + 1) f)) := upd_same
      have hl1 : (upd H d (.dK (feedK l ((a : Int) + 1) f))) l = some (.lst (cs.map V.int)) := by
        rw [upd_ne F.ne]
        exact hl
      have k1 : Keep d H (upd H d (.dK (feedK l ((a : Int) + 1) f))) := keep_upd
      generalize upd H d (.dK (feedK l ((a : Int) + 1) f)) = H1 at e1 hl1 k1 ⊢
      refine ⟨_, rfl, _, _, rfl, rfl, .inl ⟨by decide, by decide⟩, _, rfl, _, _, rfl, rfl, .inr ⟨?_, ?_⟩, _, rfl, _, _, rfl, rfl, .inl ⟨by decide, by decide⟩, _, _, rfl, rfl, _, _, rfl, rfl, ?_⟩
      · show -(2 ^ 64) < (a : Int)
        omega
      · show (a : Int) < 2 ^ 64
        omega
      -- if cells != []
      refine ⟨fun σ H2 => ∃ x : Int, σ = [some (.ref d), some (.int m), none, some (.int a), some (.int x), none] ∧ H2 d = some (.dK (feedK l ((a : Int) + 1) f)) ∧ H2 l = some (.lst (cs.map V.int)) ∧ Keep d H H2, ?_, ?_⟩
      · refine ⟨_, rfl, d, _, rfl, dg_cells e1, Nat.zero_le _, fun p np => ?_⟩
        have e2 : (upd H1 p (.lst [])) d = some (.dK (feedK l ((a : Int) + 1) f)) := by
          rw [upd_ne (ne_of_none e1 np)]
          exact e1
        have hl2 : (upd H1 p (.lst [])) l = some (.lst (cs.map V.int)) := by
          rw [upd_ne (ne_of_none hl1 np)]
          exact hl1
        have k2 : Keep d H (upd H1 p (.lst [])) := k1.trans (keep_new np)
        refine ⟨.list (cs.map PyData.int), .list [], .lst (.inl (.inl hl2)) (dp_ints cs), .lst (.inl (.inl upd_same)) .nil, PySem.W.ke_shaped_ints cs, by decide, _, rfl, ?_⟩
        rw [eqv_nil]
        cases cs with
        | nil => exact iteF ⟨_, rfl, e2, hl2, k2⟩
        | cons c0 cs0 =>
          refine iteT ?_
          have hp : 0 < (c0 :: cs0).length := Nat.succ_pos _
          have hlt : a % (c0 :: cs0).length < (c0 :: cs0).length := Nat.mod_lt _ hp
          have ei : ((a : Int) % (((c0 :: cs0).map V.int).length : Int)) = ((a % (c0 :: cs0).length : Nat) : Int) := by
            rw [List.length_map, Int.natCast_emod]
          have g : atI ((c0 :: cs0).map V.int) ((a : Int) % (((c0 :: cs0).map V.int).length : Int)) = some (.int (c0 :: cs0)[a % (c0 :: cs0).length]) := by
            rw [ei]
            refine atI_nat ?_
            rw [List.getElem?_map, List.getElem?_eq_getElem hlt]
            rfl
          refine ⟨_, rfl, _, rfl, d, _, rfl, dg_cells e2, _, rfl, _, rfl, d, _, rfl, dg_cells e2, l, _, rfl, .inl (.inl (.inl hl2)), _, _, rfl, rfl, ?_, l, _, _, _, rfl, rfl, .inl (.inl hl2), g, _, _, rfl, rfl, ?_⟩
          · show (0 : Int) < (((c0 :: cs0).map V.int).length : Int)
            rw [List.length_map]
            omega
          · exact ⟨_, rfl, e2, hl2, k2⟩
      · rintro σ H2 ⟨x, rfl, e2, hl2, k2⟩
        have fin : ∀ (y : Int) (b : Int) (H3 : Hp), H3 d = some (.dK (feedK l ((a : Int) + 1) b)) → H3 l = some (.lst (cs.map V.int)) → Keep d H H3 → Q (.int (y % m)) H3 := fun y b H3 e3 hl3 k3 => by
          obtain ⟨r, er, hr'⟩ := digit (x := y) hm
          have z := q r H3 hr' ⟨⟨a + 1, b, by omega, e3⟩, hl3, hlen⟩ k3
          rw [er] at z
          exact z
        -- if at < len(cells) and abs(cell) >= 10 ** 18
        refine ⟨fun σ H3 => σ = [some (.ref d), some (.int m), none, some (.int a), some (.int x), none] ∧ H3 = H2, ?_, ?_⟩
        · refine ⟨_, rfl, _, rfl, d, _, rfl, dg_cells e2, l, _, rfl, .inl (.inl (.inl hl2)), _, _, rfl, rfl, _, rfl, ?_⟩
          refine ite2 (fun c1 => ?_) (fun c1 => iteF ⟨rfl, rfl⟩)
          refine ⟨_, rfl, _, rfl, _, _, rfl, rfl, ⟨by decide, by decide, by decide⟩, _, _, rfl, rfl, _, rfl, ite2 (fun c2 => ?_) (fun c2 => ⟨rfl, rfl⟩)⟩
          refine ⟨_, rfl, _, rfl, _, _, rfl, rfl, ⟨by decide, by decide, by decide⟩, _, _, rfl, rfl, _, rfl, _, _, rfl, rfl, div64 hm hm2, _, rfl, d, _, rfl, dp_left e2, ?_⟩
          refine ⟨_, rfl, _, rfl, _, _, rfl, rfl, ⟨by decide, by decide, by decide⟩, _, _, rfl, rfl, _, rfl, _, _, rfl, rfl, hm, ?_⟩
          exact fin _ _ _ upd_same (by rw [upd_ne F.ne]; exact hl2) (k2.trans keep_upd)
        · rintro σ H3 ⟨rfl, rfl⟩
          refine ⟨_, rfl, _, _, rfl, rfl, .inr ⟨by decide, by decide⟩, _, rfl, _, _, rfl, rfl, _, _, rfl, rfl, .inl ⟨by decide, by decide⟩, _, _, rfl, rfl, _, _, rfl, rfl, (show (0 : Int) < 18446744073709551557 by decide), ?_⟩
          generalize hy : (x * 6364136223846793005 + 1442695040888963407 * ((a : Int) + 1)) % 18446744073709551557 = y
          have y0 : 0 ≤ y := by rw [← hy]; exact Int.emod_nonneg _ (by decide)
          have y1 : y < 18446744073709551557 := by rw [← hy]; exact Int.emod_lt_of_pos _ (by decide)
          refine ⟨_, rfl, _, rfl, _, _, rfl, rfl, _, _, rfl, rfl, .inl ⟨?_, ?_⟩, _, _, rfl, rfl, (show (0 : Int) < 18446744073709551557 by decide), ?_⟩
          · show -(2 ^ 64) < (x * 6364136223846793005 + 1442695040888963407 * ((a : Int) + 1)) % 18446744073709551557
            omega
          · show (x * 6364136223846793005 + 1442695040888963407 * ((a : Int) + 1)) % 18446744073709551557 < 2 ^ 64
            omega
          refine ⟨_, rfl, _, _, rfl, rfl, div64 (by decide) (by decide), _, rfl, _, _, rfl, rfl, hm, ?_⟩
          exact fin _ _ _ e2 hl2 k2
end
end K78
set_option Elab.async false
set_option linter.all false
set_option maxRecDepth 100000
set_option maxHeartbeats 4000000
namespace K78
open PySem PySem.Spec PyProof.Rows L2 Fd
section
variable {P : Program} {w : World} {K : PySem.W.Frag} {mg : Str → Option Value} {base : Heap} {B : Fs} {k : Nat}
/-! ### _law_feed -/
theorem merge_feed (l : Addr) (a f : Int) : mergeK [] (feedK l a f) = feedK l a f := by
  have p1 : putK ([] : List (Key × V)) (Sum.inr ("cells" : Str)) (.ref l) = [(Sum.inr ("cells" : Str), .ref l)] := putK_new _ rfl
  have p2 : putK [((Sum.inr ("cells" : Str) : Key), V.ref l)] (Sum.inr ("at" : Str)) (.int a) = [(Sum.inr ("cells" : Str), .ref l), (Sum.inr ("at" : Str), .int a)] := putK_new _ (valV_neg n1)
  have p3 : putK [((Sum.inr ("cells" : Str) : Key), V.ref l), (Sum.inr ("at" : Str), .int a)] (Sum.inr ("left" : Str)) (.int f) = feedK l a f := putK_new _ ((valV_neg n2).trans (valV_neg n3))
  show putK (putK (putK [] (Sum.inr ("cells" : Str)) (.ref l)) (Sum.inr ("at" : Str)) (.int a)) (Sum.inr ("left" : Str)) (.int f) = feedK l a f
  rw [p1, p2, p3]
theorem cut_ints (ns : List Int) (lo hi : Option Int) : ∃ cs : List Int, cutV (ns.map V.int) lo hi = cs.map V.int ∧ cs.length ≤ ns.length := by
  unfold cutV
  refine ⟨(ns.drop _).take _, by rw [List.map_take, List.map_drop], ?_⟩
  rw [List.length_take, List.length_drop]
  omega
abbrev N__law_feed : List Str := ["_law_script", "_law_cell"]
theorem sc__law_feed : FnScope N__law_feed ["_law_script"] (defScope s__law_feed) :=
  ⟨rfl, rfl, rfl, by decide +kernel, rfl, by decide +kernel, by decide +kernel⟩
theorem ok__law_feed (T : Txt K mg B) : FnOk P w K mg base CX0 (k + 1) B.f__law_feed B.d__law_feed ["_law_script"] (spFeed K) := by
  refine T.F__law_feed.ok sc__law_feed (fun vs H Q E h => ?_) (fun cdv A outer s H vs Q E hr h => ?_)
  · obtain ⟨p, ns, rfl, _⟩ := h
    rfl
  · obtain ⟨a, ns, rfl, hS, hlen, q⟩ := h
    have nd := sc__law_feed.nd
    refine ⟨_, (pss_one (ps_ret (pe_disp (pps_cons pe_str (pe_lc (own := [("_law_cell", 1)]) rfl nd (pi_list (pe_slice sl_list (pv 0) po_none (po_some pe_int))) (blkOk_by (own := [("_law_cell", 1)]) (N := N__law_feed) (sc := defScope s__law_feed) (by decide +kernel)) (fun _ _ _ _ _ => (pg_name (i := 1) nd rfl (.inl rfl))) (fun _ _ _ _ _ => pts_nil) (fun _ _ _ _ _ => (pv 1))) (pps_cons pe_str pe_int (pps_cons pe_str pe_int pps_nil))) (by rfl) (by rfl) (fun z => by cases z) (by decide)))), ?_⟩
    intro p np
    have s1 : Same H (upd H p (.dK [])) := same_new np
    have e1 : (upd H p (.dK [])) p = some (.dK []) := upd_same
    generalize upd H p (.dK []) = H1 at s1 e1 ⊢
    obtain ⟨cs, ecs, hcs⟩ := cut_ints ns none (some 63)
    refine ⟨_, rfl, 63, rfl, a, ns.map V.int, rfl, s1.seq hS, fun c nc => ?_⟩
    rw [ecs]
    have s2 : Same H1 (upd H1 c (.lst (cs.map V.int))) := same_new nc
    have e2 : (upd H1 c (.lst (cs.map V.int))) c = some (.lst (cs.map V.int)) := upd_same
    generalize upd H1 c (.lst (cs.map V.int)) = H2 at s2 e2 ⊢
    refine ⟨c, rfl, ⟨_, .inl (.inl e2)⟩, fun D nD => ?_⟩
    have hD : H D = none := (s1.trans s2).free nD
    refine lc_list (K := K) (a := c) (xs := cs.map V.int) (fun i H' => Same H2 H' ∧ H' D = some (.lst ((cs.take i).map V.int))) ⟨same_new nD, upd_same⟩ (fun i H' _ h => .inl (.inl (h.1 _ _ e2))) (fun i x H' hx h => ?_) (fun H' h => ?_)
    · refine ⟨rfl, _, rfl, _, h.2, ?_, ?_, ?_⟩
      · rw [List.length_map, List.length_take]
        exact small1000 (by omega)
      · intro b o e
        rw [upd_ne (ne_of_none e nD)]
        exact h.1 b o e
      · rw [upd_same]
        obtain ⟨z, hz, rfl⟩ : ∃ z, cs[i]? = some z ∧ x = V.int z := by
          rw [List.getElem?_map] at hx
          cases hc : cs[i]? with
          | none => rw [hc] at hx; cases hx
          | some z => rw [hc] at hx; cases hx; exact ⟨z, rfl, rfl⟩
        rw [List.take_add_one, hz, List.map_append]
        rfl
    · obtain ⟨s3, e3⟩ := h
      rw [List.length_map, List.take_length] at e3
      have ep : H' p = some (.dK []) := s3 _ _ (s2 _ _ e1)
      refine ⟨ep, feedK D 0 0, rfl, (by show 3 ≤ 15; decide), ?_⟩
      rw [merge_feed]
      refine q p D cs _ np hD ⟨⟨0, 0, Nat.le_refl _, upd_same⟩, ?_, by omega⟩ fun b o e => ?_
      · rw [upd_ne (ne_of e3 ep (by intro z; cases z))]
        exact e3
      · rw [upd_ne (ne_of_none e np)]
        exact s3 _ _ (s2 _ _ (s1 _ _ e))
/-! ### _law_pick -/
abbrev N__law_pick : List Str := ["_law_feed_here", "_law_some"]
theorem sc__law_pick : FnScope N__law_pick ["_law_feed_here", "_law_some"] (defScope s__law_pick) :=
  ⟨rfl, rfl, rfl, by decide +kernel, rfl, by decide +kernel, by decide +kernel⟩
theorem ok__law_pick (T : Txt K mg B) : FnOk P w K mg base CX0 (k + 2) B.f__law_pick B.d__law_pick ["_law_feed_here", "_law_some"] (spPick K) := by
  have G__law_draw : FnOk P w K mg base CX0 (k + 1) B.f__law_draw B.d__law_draw ["_law_feed_here", "_law_many"] spDraw := ok__law_draw T
  refine T.F__law_pick.ok sc__law_pick (fun vs H Q E h => ?_) (fun cdv A outer s H vs Q E hr h => ?_)
  · obtain ⟨d, l, p, cs, n, xs, rfl, _⟩ := h
    rfl
  · obtain ⟨d, l, p, cs, n, xs, rfl, F, hn, hS, hx0, hx1, q⟩ := h
    have nd := sc__law_pick.nd
    refine ⟨_, (pss_one (ps_ret (pe_ix ix_list (pv 1) (pe_call G__law_draw hr (by rfl) T.m__law_draw T.F__law_draw.kp T.b__law_draw .nil pass0 (pa_cons (pv 0) (pa_cons (pe_callB call_len_seq (by rfl) T.z_len (by decide +kernel) (pa_cons (pv 1) pa_nil)) pa_nil))) (fun _ _ => rfl)))), ?_⟩
    refine ⟨_, rfl, _, rfl, _, rfl, p, xs, rfl, .inl hS, d, l, cs, n, _, rfl, F, hn, (by omega), (by omega), fun r H' hr' F' kp => ?_⟩
    have hr2 : r < xs.length := by omega
    refine ⟨p, xs, _, _, rfl, rfl, F.seq kp hS, atI_nat (List.getElem?_eq_getElem hr2), ?_⟩
    exact q _ H' (List.getElem_mem hr2) F' kp
/-! ### _law_turn -/
def spTurn : Sp := fun vs H Q _ => ∃ (d l : Addr) (cs : List Int) (n : Nat), vs = [.ref d] ∧ FeedAt H d l cs n ∧ n + 4 ≤ 1000000 ∧
  ∀ (t : Nat) (H' : Hp), 1 ≤ t → t ≤ 400 → FeedAt H' d l cs (n + 4) → Keep d H H' → Q (.int t) H'
abbrev N__law_turn : List Str := ["_law_feed_here"]
theorem sc__law_turn : FnScope N__law_turn ["_law_feed_here"] (defScope s__law_turn) :=
  ⟨rfl, rfl, rfl, by decide +kernel, rfl, by decide +kernel, by decide +kernel⟩
theorem ok__law_turn (T : Txt K mg B) : FnOk P w K mg base CX0 (k + 3) B.f__law_turn B.d__law_turn ["_law_feed_here"] spTurn := by
  have G__law_draw : FnOk P w K mg base CX0 (k + 2) B.f__law_draw B.d__law_draw ["_law_feed_here", "_law_many"] spDraw := ok__law_draw T
  have G__law_pick : FnOk P w K mg base CX0 (k + 2) B.f__law_pick B.d__law_pick ["_law_feed_here", "_law_some"] (spPick K) := ok__law_pick T
  refine T.F__law_turn.ok sc__law_turn (fun vs H Q E h => ?_) (fun cdv A outer s H vs Q E hr h => ?_)
  · obtain ⟨d, l, cs, n, rfl, _⟩ := h
    rfl
  · obtain ⟨d, l, cs, n, rfl, F, hn, q⟩ := h
    have nd := sc__law_turn.nd
    refine ⟨_, (pss_one (ps_ret (pe_call G__law_pick hr (by rfl) T.m__law_pick T.F__law_pick.kp T.b__law_pick .nil pass0 (pa_cons (pv 0) (pa_cons (pe_lst (pa_cons (pe_op op_add pe_int (pe_call G__law_draw hr (by rfl) T.m__law_draw T.F__law_draw.kp T.b__law_draw .nil pass0 (pa_cons (pv 0) (pa_cons pe_int pa_nil)))) (pa_cons (pe_op op_mul pe_int (pe_op op_add pe_int (pe_call G__law_draw hr (by rfl) T.m__law_draw T.F__law_draw.kp T.b__law_draw .nil pass0 (pa_cons (pv 0) (pa_cons pe_int pa_nil))))) (pa_cons (pe_op op_mul pe_int (pe_op op_add pe_int (pe_call G__law_draw hr (by rfl) T.m__law_draw T.F__law_draw.kp T.b__law_draw .nil pass0 (pa_cons (pv 0) (pa_cons pe_int pa_nil))))) (pa_cons pe_int pa_nil))))) pa_nil))))), ?_⟩
    refine ⟨_, rfl, _, rfl, d, l, cs, n, _, rfl, F, by omega, by decide, by decide, fun r1 H1 h1 F1 k1 => ?_⟩
    refine ⟨_, _, rfl, rfl, _, rfl, d, l, cs, n + 1, _, rfl, F1, by omega, by decide, by decide, fun r2 H2 h2 F2 k2 => ?_⟩
    refine ⟨_, _, rfl, rfl, _, _, rfl, rfl, .inl ⟨by decide, by decide⟩, _, rfl, d, l, cs, n + 2, _, rfl, F2, by omega, by decide, by decide, fun r3 H3 h3 F3 k3 => ?_⟩
    refine ⟨_, _, rfl, rfl, _, _, rfl, rfl, .inl ⟨by decide, by decide⟩, (by show 4 ≤ sizeLine; decide), fun p np => ?_⟩
    have F4 := F3.same (same_new (o := .lst [.int (1 + (r1 : Int)), .int (2 * (1 + (r2 : Int))), .int (12 * (1 + (r3 : Int))), .int 1]) np)
    refine ⟨d, l, p, cs, n + 3, _, rfl, F4, by omega, .inl (.inl upd_same), (by show 0 < 4; decide), (by show 4 < 1000; decide), fun x H5 hx F5 k5 => ?_⟩
    have kk : Keep d H H5 := (((k1.trans k2).trans k3).trans (keep_new np)).trans k5
    have hx' : x = .int (1 + (r1 : Int)) ∨ x = .int (2 * (1 + (r2 : Int))) ∨ x = .int (12 * (1 + (r3 : Int))) ∨ x = .int 1 := by simpa using hx
    rcases hx' with rfl | rfl | rfl | rfl
    · exact q (1 + r1) H5 (by omega) (by omega) F5 kk
    · exact q (2 * (1 + r2)) H5 (by omega) (by omega) F5 kk
    · exact q (12 * (1 + r3)) H5 (by omega) (by omega) F5 kk
    · exact q 1 H5 (by omega) (by omega) F5 kk
end
end K78
set_option Elab.async false
set_option linter.all false
set_option maxRecDepth 100000
set_option maxHeartbeats 4000000
namespace K78
open PySem PySem.Spec PyProof.Rows L2 Fd M78
section
variable {P : Program} {w : World} {K : PySem.W.Frag} {mg : Str → Option Value} {base : Heap} {B : Fs} {k : Nat}
/-- numbers from 0 on, as values -/
def nV (ns : List Nat) : List V := ns.map fun (n : Nat) => V.int (n : Int)
theorem nV_get {ns : List Nat} {i n : Nat} (h : ns[i]? = some n) : (nV ns)[i]? = some (.int (n : Int)) := by
  unfold nV
  rw [List.getElem?_map, h]
  rfl
theorem nV_len (ns : List Nat) : (nV ns).length = ns.length := List.length_map ..
theorem nV_of {ns : List Nat} {i : Nat} {x : V} (h : (nV ns)[i]? = some x) : ∃ n, ns[i]? = some n ∧ x = .int (n : Int) := by
  unfold nV at h
  rw [List.getElem?_map] at h
  cases hc : ns[i]? with
  | none => rw [hc] at h; cases h
  | some n => rw [hc] at h; cases h; exact ⟨n, rfl, rfl⟩
theorem at0 {ns : List Nat} {i n : Nat} (h : ns[i]? = some n) : atI (nV ns) (0 + (i : Int)) = some (.int (n : Int)) := by
  rw [Int.zero_add]
  exact atI_nat (nV_get h)
/-! ### _law_all_apart -/
def Bad (rs ts : List Nat) (i j : Nat) : Prop := ∃ (ri rj ti tj : Nat), rs[i]? = some ri ∧ rs[j]? = some rj ∧ ts[i]? = some ti ∧ ts[j]? = some tj ∧
  ¬ (((ri : Int) - rj) % (Nat.gcd ti tj : Nat) = 0)
def spApart (K : PySem.W.Frag) : Sp := fun vs H Q _ => ∃ (a b : Addr) (rs ts : List Nat), vs = [.ref a, .ref b] ∧ SqL K H a (nV rs) ∧ SqL K H b (nV ts) ∧ rs.length = ts.length ∧ ts.length ≤ 5 ∧ (∀ t ∈ ts, 1 ≤ t ∧ t ≤ 400) ∧
  (Apart rs ts → Q (.bl true) H) ∧ (¬ Apart rs ts → Q (.bl false) H)
abbrev N__law_all_apart : List Str := ["_law_rests", "_law_turns", "_law_i", "_law_j"]
theorem sc__law_all_apart : FnScope N__law_all_apart ["_law_rests", "_law_turns"] (defScope s__law_all_apart) :=
  ⟨rfl, rfl, rfl, by decide +kernel, rfl, by decide +kernel, by decide +kernel⟩
theorem int_ne {x y : Int} (h : (!decide (V.int x = V.int y)) = true) : ¬ x = y := fun e => by
  subst e
  rw [decide_eq_true rfl] at h
  cases h
theorem int_eq {x y : Int} (h : ¬ (!decide (V.int x = V.int y)) = true) : x = y := by
  by_cases e : V.int x = V.int y
  · exact V.int.inj e
  · exact absurd (by rw [decide_eq_false e]; rfl) h
theorem ok__law_all_apart (T : Txt K mg B) : FnOk P w K mg base CX0 (k + 2) B.f__law_all_apart B.d__law_all_apart ["_law_rests", "_law_turns"] (spApart K) := by
  have G__law_gcd : FnOk P w K mg base CX0 (k + 1) B.f__law_gcd B.d__law_gcd ["_law_one", "_law_other"] spGcd := ok__law_gcd T
  refine T.F__law_all_apart.ok sc__law_all_apart (fun vs H Q E h => ?_) (fun cdv A outer s H vs Q E hr h => ?_)
  · obtain ⟨a, b, rs, ts, rfl, _⟩ := h
    rfl
  · obtain ⟨a, b, rs, ts, rfl, hA, hB, hl, h5, ht, qt, qf⟩ := h
    have nd := sc__law_all_apart.nd
    refine ⟨_, (pss_cons (ps_for PassesOwn.never rfl (pi_range1 (by rfl) T.z_range (pa_cons (pe_callB call_len_seq (by rfl) T.z_len (by decide +kernel) (pa_cons (pv 0) pa_nil)) pa_nil)) (pg_name (i := 2) nd rfl (.inl rfl))
          (pss_one (ps_for PassesOwn.never rfl (pi_range1 (by rfl) T.z_range (pa_cons (pv 2) pa_nil)) (pg_name (i := 3) nd rfl (.inl rfl))
                (pss_one (ps_if (pt_cmpR op_ne (pe_op op_mod (pe_op op_sub (pe_ix ix_list (pv 0) (pv 2) (fun _ _ => rfl)) (pe_ix ix_list (pv 0) (pv 3) (fun _ _ => rfl))) (pe_call G__law_gcd hr (by rfl) T.m__law_gcd T.F__law_gcd.kp T.b__law_gcd .nil pass0 (pa_cons (pe_ix ix_list (pv 1) (pv 2) (fun _ _ => rfl)) (pa_cons (pe_ix ix_list (pv 1) (pv 3) (fun _ _ => rfl)) pa_nil)))) pe_int (nomark _))
                      (pss_one (ps_ret pe_bl))
                      pss_nil)))))
      (pss_one (ps_ret pe_bl))), ?_⟩
    have hlr : (nV rs).length ≤ 5 := by rw [nV_len]; omega
    refine ⟨_, rfl, a, _, rfl, .inl hA, _, rfl, by omega, by omega, ?_⟩
    refine for_range (lo := 0) (fun i σ H' => H' = H ∧ (∃ y2 y3, σ = [some (.ref a), some (.ref b), y2, y3]) ∧ ∀ i' j', i' < i → j' < i' → ¬ Bad rs ts i' j') ⟨rfl, ⟨none, none, rfl⟩, fun i' j' h => absurd h (Nat.not_lt_zero _)⟩ ?_ ?_
    · rintro i σ H' hi ⟨rfl, ⟨y2, y3, rfl⟩, hb⟩
      have hi' : i < rs.length := by
        have : i < (nV rs).length := hi
        rwa [nV_len] at this
      refine ⟨_, rfl, _, rfl, by omega, by omega, ?_⟩
      refine for_range (lo := 0) (fun j σ H'' => H'' = H' ∧ (∃ y3, σ = [some (.ref a), some (.ref b), some (.int (0 + (i : Int))), y3]) ∧ ∀ j', j' < j → ¬ Bad rs ts i j') ⟨rfl, ⟨y3, rfl⟩, fun j' h => absurd h (Nat.not_lt_zero _)⟩ ?_ ?_
      · rintro j σ H'' hj ⟨rfl, ⟨y3, rfl⟩, hbj⟩
        have hj' : j < i := by
          have : j < (0 + (i : Int)).toNat := hj
          omega
        have eri := List.getElem?_eq_getElem hi'
        have erj := List.getElem?_eq_getElem (show j < rs.length by omega)
        have eti := List.getElem?_eq_getElem (show i < ts.length by omega)
        have etj := List.getElem?_eq_getElem (show j < ts.length by omega)
        refine ⟨_, rfl, _, rfl, a, _, _, _, rfl, rfl, hA, at0 eri, _, rfl, _, rfl, a, _, _, _, rfl, rfl, hA, at0 erj, _, _, rfl, rfl, _, rfl, _, rfl, b, _, _, _, rfl, rfl, hB, at0 eti, _, rfl, _, rfl, b, _, _, _, rfl, rfl, hB, at0 etj,
          _, _, rfl, _, _, rfl, rfl, ?_, rfl, _, rfl, ite2 (fun c => ?_) (fun c => ?_)⟩
        · have := Nat.gcd_pos_of_pos_left (n := ts[j]) (ht ts[i] (List.mem_of_getElem? eti)).1
          show (0 : Int) < ((Nat.gcd ts[i] ts[j] : Nat) : Int)
          omega
        · exact qt ⟨i, j, _, _, _, _, hj', eri, erj, eti, etj, int_ne c⟩
        · refine ⟨rfl, ⟨_, rfl⟩, fun j' hlt => ?_⟩
          by_cases ej : j' = j
          · subst ej
            rintro ⟨ri, rj, ti, tj, e1, e2, e3, e4, no⟩
            rw [eri] at e1
            rw [erj] at e2
            rw [eti] at e3
            rw [etj] at e4
            cases e1
            cases e2
            cases e3
            cases e4
            exact no (int_eq c)
          · exact hbj j' (by omega)
      · rintro σ H'' ⟨rfl, ⟨y3, rfl⟩, hbj⟩
        refine ⟨rfl, ⟨_, _, rfl⟩, fun i' j' h1 h2 => ?_⟩
        by_cases ei : i' = i
        · subst ei
          refine hbj j' ?_
          show j' < (0 + (i' : Int)).toNat
          omega
        · exact hb i' j' (by omega) h2
    · rintro σ H' ⟨rfl, ⟨y2, y3, rfl⟩, hb⟩
      refine qf ?_
      rintro ⟨i, j, ri, rj, ti, tj, hj, e1, e2, e3, e4, no⟩
      refine hb i j ?_ hj ⟨ri, rj, ti, tj, e1, e2, e3, e4, no⟩
      show i < (nV rs).length
      rw [nV_len]
      exact (List.getElem?_eq_some_iff.mp e1).1
/-! ### least_with -/
def oV : Option Nat → V
  | none => .non
  | some n => .int (n : Int)
def spLeast (K : PySem.W.Frag) : Sp := fun vs H Q _ => ∃ (k1 k2 : Zs.Src) (rs ts : List Nat) (m : Nat), vs = [k1.v, k2.v, .int (m : Int)] ∧ k1.at K H (nV rs) ∧ k2.at K H (nV ts) ∧ rs.length = ts.length ∧ ts.length ≤ 5 ∧
  (∀ t ∈ ts, 1 ≤ t ∧ t ≤ 400) ∧ (∀ (i r t : Nat), rs[i]? = some r → ts[i]? = some t → r < t) ∧ ∀ (o : Option Nat) (H' : Hp), Same H H' → LW rs ts m o → Q (oV o) H'
abbrev N_least_with : List Str := ["rests", "rounds", "least", "found", "step", "rest", "turn", "common", "many"]
theorem sc_least_with : FnScope N_least_with ["rests", "rounds", "least"] (defScope s_least_with) :=
  ⟨rfl, rfl, rfl, by decide +kernel, rfl, by decide +kernel, by decide +kernel⟩
theorem ok_least_with (T : Txt K mg B) : FnOk P w K mg base CX0 (k + 2) B.f_least_with B.d_least_with ["rests", "rounds", "least"] (spLeast K) := by
  have G_divisor : FnOk P w K mg base CX0 (k + 1) B.f_divisor B.d_divisor ["one", "other"] spGcd := ok_divisor T
  have G_inverse_by : FnOk P w K mg base CX0 (k + 1) B.f_inverse_by B.d_inverse_by ["one", "turn"] spInv := ok_inverse_by T
  refine T.F_least_with.ok sc_least_with (fun vs H Q E h => ?_) (fun cdv A outer s H vs Q E hr h => ?_)
  · obtain ⟨k1, k2, rs, ts, m, rfl, _⟩ := h
    rfl
  · obtain ⟨k1, k2, rs, ts, m, rfl, hA, hB, hl, h5, ht, hrt, q⟩ := h
    have nd := sc_least_with.nd
    refine ⟨_, PSs.nox (pss_cons (ps_asg (pe_tup (pa_cons pe_int (pa_cons pe_int pa_nil))) (pg_tup rfl (pgs_cons (pg_name (i := 3) nd rfl (.inl rfl)) (pgs_cons (pg_name (i := 4) nd rfl (.inl rfl)) pgs_nil))))
      (pss_cons (ps_for PassesOwn.never rfl (Zs.pi_zipS rfl (by rfl) T.z_zip (pa_cons (pv 0) (pa_cons (pv 1) pa_nil))) (pg_tup rfl (pgs_cons (pg_name (i := 5) nd rfl (.inl rfl)) (pgs_cons (pg_name (i := 6) nd rfl (.inl rfl)) pgs_nil)))
          (pss_cons (ps_set (i := 7) nd rfl (.inl rfl) (pe_call G_divisor hr (by rfl) T.m_divisor T.F_divisor.kp T.b_divisor .nil pass0 (pa_cons (pv 4) (pa_cons (pv 6) pa_nil))))
            (pss_cons (ps_if (PW.pt (pw_or (pt_not (pt_chain op_le op_lt pe_int (pv 5) (pv 6))) (pw_or1 (pt_cmpR op_ne (pe_op op_mod (pe_op op_sub (pv 5) (pv 3)) (pv 7)) pe_int (nomark _)))))
                (pss_one (ps_ret pe_non))
                pss_nil)
            (pss_cons (ps_set (i := 8) nd rfl (.inl rfl) (pe_op op_mod (pe_op op_mul (pe_op op_fdiv (pe_op op_sub (pv 5) (pv 3)) (pv 7)) (pe_call G_inverse_by hr (by rfl) T.m_inverse_by T.F_inverse_by.kp T.b_inverse_by .nil pass0 (pa_cons (pe_op op_fdiv (pv 4) (pv 7)) (pa_cons (pe_op op_fdiv (pv 6) (pv 7)) pa_nil)))) (pe_op op_fdiv (pv 6) (pv 7))))
            (pss_one (ps_par (i := 3) (j := 4) (by rfl) nd rfl rfl (by decide) rfl rfl (pa_cons (pe_op op_add (pv 3) (pe_op op_mul (pv 4) (pv 8))) (pa_cons (pe_op op_mul (pe_op op_fdiv (pv 4) (pv 7)) (pv 6)) pa_nil)) (by rfl)))))))
      (pss_one (ps_ret (pe_op op_add (pv 3) (pe_op op_mul (pe_op op_fdivW (pe_callB (call_max2 rfl) (by rfl) T.z_max (by decide +kernel) (pa_cons pe_int (pa_cons (pe_op op_sub (pe_op op_add (pe_op op_sub (pv 2) (pv 3)) (pv 4)) pe_int) pa_nil))) (pv 4)) (pv 4))))))), ?_⟩
    refine ⟨(by show 2 ≤ sizeLine; decide), fun U0 nU0 => ?_⟩
    have sm0 : Same H (upd H U0 (.tup [.int 0, .int 1])) := same_new nU0
    refine ⟨U0, _, rfl, .inl (.inl upd_same), rfl, _, _, rfl, _, _, rfl, rfl, ?_⟩
    refine ⟨_, rfl, _, rfl, k1, k2, _, _, rfl, Zs.Src.same sm0 hA, Zs.Src.same sm0 hB, ?_⟩
    refine Zs.for_zipB (by rw [nV_len, nV_len]; exact hl) (fun i σ H' => Same H H' ∧ ∃ (found step : Nat) (y5 y6 y7 y8 : Option V), σ = [some k1.v, some k2.v, some (.int (m : Int)), some (.int (found : Int)), some (.int (step : Int)), y5, y6, y7, y8] ∧ Step rs ts i found step)
      ⟨sm0, 0, 1, none, none, none, none, rfl, Step.zero rs ts⟩ (fun i σ H' h => ⟨Zs.Src.same h.1 hA, Zs.Src.same h.1 hB⟩) ?_ ?_
    · rintro i x y U σ H' hx hy ⟨sm, found, step, y5, y6, y7, y8, rfl, S⟩ nU
      obtain ⟨r, er, rfl⟩ := nV_of hx
      obtain ⟨t, et, rfl⟩ := nV_of hy
      have hit : i < ts.length := (List.getElem?_eq_some_iff.mp et).1
      have htt := ht t (List.mem_of_getElem? et)
      have hrt' := hrt i r t er et
      have hsl : step ≤ 400 ^ 5 := by
        rw [S.eq]
        exact Nat.le_trans (lcmL_le ht i (by omega)) (Nat.pow_le_pow_right (by decide) (by omega))
      have hsp : 0 < step := by
        have := S.lt
        omega
      have hg0 : 0 < Nat.gcd step t := Nat.gcd_pos_of_pos_right _ htt.1
      have hg1 : Nat.gcd step t ≤ t := Nat.gcd_le_right _ htt.1
      have sm2 : Same H (upd H' U (.tup [.int (r : Int), .int (t : Int)])) := sm.trans (same_new nU)
      refine ⟨U, _, rfl, .inl (.inl upd_same), rfl, _, _, rfl, _, _, rfl, rfl, ?_⟩
      -- common = divisor(step, turn)
      refine ⟨_, rfl, _, rfl, step, t, rfl, ?_⟩
      refine ⟨_, rfl, _, _, rfl, rfl, _, rfl, iteY (by omega) ⟨_, rfl, _, _, rfl, rfl, _, rfl, iteNS (by omega) ?_⟩⟩
      refine ⟨_, rfl, _, rfl, _, _, rfl, rfl, _, rfl, _, _, rfl, rfl, ?_, rfl, _, rfl, ite2 (fun c => ?_) (fun c => ?_)⟩
      · show (0 : Int) < ((Nat.gcd step t : Nat) : Int)
        omega
      · exact q none _ sm2 (S.apart (by omega) hl er et htt.1 (int_ne c))
      · have hz := int_eq c
        have eq1 : (r : Int) - found = ((Nat.gcd step t : Nat) : Int) * (((r : Int) - found) / ((Nat.gcd step t : Nat) : Int)) := by
          have := Int.emod_add_mul_ediv ((r : Int) - found) ((Nat.gcd step t : Nat) : Int)
          omega
        have hgI : (0 : Int) < ((Nat.gcd step t : Nat) : Int) := by omega
        have hgJ : ((Nat.gcd step t : Nat) : Int) < 1073741824 := by omega
        have ht0 : 0 < t / Nat.gcd step t := Nat.div_pos hg1 hg0
        have ht1 : t / Nat.gcd step t ≤ 400 := Nat.le_trans (Nat.div_le_self _ _) htt.2
        have hcop : Nat.gcd (step / Nat.gcd step t) (t / Nat.gcd step t) = 1 := Nat.gcd_div_gcd_div_gcd_of_pos_left hsp
        have hs5 : step / Nat.gcd step t ≤ 400 ^ 5 := Nat.le_trans (Nat.div_le_self _ _) hsl
        refine ⟨_, rfl, _, rfl, _, _, rfl, rfl, _, rfl, _, _, rfl, rfl, ⟨hgI, hgJ⟩, _, rfl, _, rfl, _, _, rfl, rfl, ⟨hgI, hgJ⟩, _, rfl, _, rfl, _, _, rfl, rfl, ⟨hgI, hgJ⟩, step / Nat.gcd step t, t / Nat.gcd step t, rfl,
          (by omega), ht0, (by omega), hcop, fun inv hi1 hi2 => ?_⟩
        refine ⟨_, _, rfl, rfl, .inr ⟨by omega, by omega⟩, _, rfl, _, rfl, _, _, rfl, rfl, ⟨hgI, hgJ⟩, _, _, rfl, rfl, ?_, ?_⟩
        · show (0 : Int) < ((t / Nat.gcd step t : Nat) : Int)
          omega
        · obtain ⟨many, em, hm1⟩ := digit (x := ((r : Int) - found) / ((Nat.gcd step t : Nat) : Int) * inv) (m := ((t / Nat.gcd step t : Nat) : Int)) (by omega)
          have N := S.next (many := many) hit hl er et htt.1 hrt' eq1 hi2 em
          refine ⟨_, rfl, _, rfl, _, rfl, _, _, rfl, rfl, .inr ⟨?_, ?_⟩, _, _, rfl, rfl, _, rfl, _, rfl, _, _, rfl, rfl, ⟨hgI, hgJ⟩, _, rfl, _, _, rfl, rfl, .inr ⟨by omega, by omega⟩, _, _, rfl, ?_⟩
          · show -(2 ^ 64) < ((r : Int) - found) / ((Nat.gcd step t : Nat) : Int) * inv % ((t / Nat.gcd step t : Nat) : Int)
            omega
          · show ((r : Int) - found) / ((Nat.gcd step t : Nat) : Int) * inv % ((t / Nat.gcd step t : Nat) : Int) < 2 ^ 64
            omega
          · refine ⟨sm2, found + step * many, step / Nat.gcd step t * t, some (.int (r : Int)), some (.int (t : Int)), some (.int ((Nat.gcd step t : Nat) : Int)), some (.int (((r : Int) - found) / ((Nat.gcd step t : Nat) : Int) * inv % ((t / Nat.gcd step t : Nat) : Int))), ?_, N⟩
            have ef : ((found + step * many : Nat) : Int) = (found : Int) + (step : Int) * (((r : Int) - found) / ((Nat.gcd step t : Nat) : Int) * inv % ((t / Nat.gcd step t : Nat) : Int)) := by
              rw [Int.natCast_add, Int.natCast_mul, em]
            rw [ef]
            rfl
    · rintro σ H' ⟨sm, found, step, y5, y6, y7, y8, rfl, S⟩
      rw [nV_len, hl] at S
      have hsl : step ≤ 400 ^ 5 := by
        rw [S.eq]
        exact Nat.le_trans (lcmL_le ht _ (Nat.le_refl _)) (Nat.pow_le_pow_right (by decide) (by omega))
      have hsp : 0 < step := by
        have := S.lt
        omega
      obtain ⟨n, c, en, h1, h2, e⟩ := ceil_ok (m := m) S.lt
      refine ⟨_, rfl, _, rfl, _, rfl, _, _, rfl, rfl, _, rfl, _, _, rfl, rfl, _, _, rfl, rfl, _, _, rfl, _, rfl, _, _, rfl, rfl, div64 (by omega) (by omega), _, rfl, _, _, rfl, rfl, .inr ⟨by omega, by omega⟩, _, _, rfl, rfl, ?_⟩
      have z := q (some n) H' sm ⟨by rw [en]; exact S.leaves hl, h1, by rw [S.eq, List.take_length] at h2; exact h2⟩
      have z2 : Q (.int (n : Int)) H' := z
      rw [e] at z2
      exact z2
end
end K78
set_option Elab.async false
set_option linter.all false
set_option maxRecDepth 100000
set_option maxHeartbeats 4000000
namespace K78
open PySem PySem.Spec PyProof.Rows L2 Fd M78
section
variable {P : Program} {w : World} {K : PySem.W.Frag} {mg : Str → Option Value} {base : Heap} {B : Fs} {k : Nat}
theorem ixLK {X : Cx} (h : X.K = K) : IxR X (rIxL K) := by
  rw [← h]
  exact ix_list
theorem feed_upd {H : Hp} {d l D : Addr} {cs : List Int} {n : Nat} {o : HO} (F : FeedAt H d l cs n) (h1 : D ≠ d) (h2 : D ≠ l) : FeedAt (upd H D o) d l cs n := by
  obtain ⟨⟨a, f, ha, e⟩, q, z⟩ := F
  exact ⟨⟨a, f, ha, by rw [upd_ne h1.symm]; exact e⟩, by rw [upd_ne h2.symm]; exact q, z⟩
theorem nV_snoc (ns : List Nat) (n : Nat) : nV ns ++ [.int (n : Int)] = nV (ns ++ [n]) := by
  unfold nV
  rw [List.map_append]
  rfl
theorem lw_nil {m : Nat} {o : Option Nat} (h : LW [] [] m o) : o = some m := by
  cases o with
  | none =>
    obtain ⟨i, j, ri, rj, ti, tj, _, e, _⟩ := h
    simp at e
  | some n =>
    obtain ⟨_, h1, h2⟩ := h
    have h3 : n < m + 1 := h2
    have : n = m := by omega
    rw [this]
def spLaw (K : PySem.W.Frag) : Sp := fun vs H Q _ => ∃ (a : Addr) (ns : List Int), vs = [.ref a] ∧ SqL K H a (ns.map V.int) ∧ ns.length ≤ 63 ∧ ∀ H', Q (.bl true) H'
abbrev N_law : List Str := ["_law_script", "_law_feed_here", "_law_turn_here", "_law_turns", "_law_number", "_law_one", "_law_rests", "_law_start", "_law_told", "_law_step", "_law_bad", "_law_k"]
theorem sc_law : FnScope N_law ["_law_script"] (defScope s_law) :=
  ⟨rfl, rfl, rfl, by decide +kernel, rfl, by decide +kernel, by decide +kernel⟩
theorem ok_law {f : Addr} {fd : FuncData} (F : Fun K "law" "law" s_law f fd) (T : Txt K mg B) : FnOk P w K mg base CX0 4 f fd ["_law_script"] (spLaw K) := by
  have G__law_draw : FnOk P w K mg base CX0 3 B.f__law_draw B.d__law_draw ["_law_feed_here", "_law_many"] spDraw := ok__law_draw T
  have G__law_feed : FnOk P w K mg base CX0 3 B.f__law_feed B.d__law_feed ["_law_script"] (spFeed K) := ok__law_feed T
  have G__law_pick : FnOk P w K mg base CX0 3 B.f__law_pick B.d__law_pick ["_law_feed_here", "_law_some"] (spPick K) := ok__law_pick T
  have G__law_turn : FnOk P w K mg base CX0 3 B.f__law_turn B.d__law_turn ["_law_feed_here"] spTurn := ok__law_turn (k := 0) T
  have G__law_gcd : FnOk P w K mg base CX0 3 B.f__law_gcd B.d__law_gcd ["_law_one", "_law_other"] spGcd := ok__law_gcd T
  have G__law_all_apart : FnOk P w K mg base CX0 3 B.f__law_all_apart B.d__law_all_apart ["_law_rests", "_law_turns"] (spApart K) := ok__law_all_apart T
  have G_least_with : FnOk P w K mg base CX0 3 B.f_least_with B.d_least_with ["rests", "rounds", "least"] (spLeast K) := ok_least_with T
  refine F.ok sc_law (fun vs H Q E h => ?_) (fun cdv A outer s H vs Q E hr h => ?_)
  · obtain ⟨a, ns, rfl, _⟩ := h
    rfl
  · obtain ⟨a, ns, rfl, hS, hlen, q⟩ := h
    have nd := sc_law.nd
    refine ⟨_, (pss_cons (ps_set (i := 1) nd rfl (.inr rfl) (pe_call G__law_feed hr (by rfl) T.m__law_feed T.F__law_feed.kp T.b__law_feed .nil pass0 (pa_cons (pv 0) pa_nil)))
      (pss_cons (ps_for PassesOwn.never rfl (pi_range1 (by rfl) T.z_range (pa_cons pe_int pa_nil)) (pg_name (i := 2) nd rfl (.inl rfl))
          (pss_cons (ps_set (i := 3) nd rfl (.inr rfl) (pe_lc (own := [("_law_k", 11)]) rfl nd (pi_range1 (by rfl) T.z_range (pa_cons (pe_call G__law_draw hr (by rfl) T.m__law_draw T.F__law_draw.kp T.b__law_draw .nil pass0 (pa_cons (pv 1) (pa_cons pe_int pa_nil))) pa_nil)) (blkOk_by (own := [("_law_k", 11)]) (N := N_law) (sc := defScope s_law) (by decide +kernel)) (fun _ _ _ _ _ => (pg_name (i := 11) nd rfl (.inl rfl))) (fun _ _ _ _ _ => pts_nil) (fun _ _ _ _ _ => (pe_call G__law_turn hr (by rfl) T.m__law_turn T.F__law_turn.kp T.b__law_turn .nil pass0 (pa_cons (pv 1) pa_nil)))))
            (pss_cons (ps_set (i := 4) nd rfl (.inr rfl) (pe_call G__law_draw hr (by rfl) T.m__law_draw T.F__law_draw.kp T.b__law_draw .nil pass0 (pa_cons (pv 1) (pa_cons (pe_op op_pow pe_int pe_int) pa_nil))))
            (pss_cons (ps_set (i := 6) nd rfl (.inr rfl) (pe_lc (own := [("_law_one", 5)]) rfl nd (pi_list (pv 3)) (blkOk_by (own := [("_law_one", 5)]) (N := N_law) (sc := defScope s_law) (by decide +kernel)) (fun _ _ _ _ _ => (pg_name (i := 5) nd rfl (.inl rfl))) (fun _ _ _ _ _ => pts_nil) (fun _ _ _ _ _ => (pe_call G__law_pick hr (by rfl) T.m__law_pick T.F__law_pick.kp T.b__law_pick .nil pass0 (pa_cons (pv 1) (pa_cons (pe_lst (pa_cons (pe_op op_mod (pv 4) (pv 5)) (pa_cons (pe_op op_mod (pv 4) (pv 5)) (pa_cons (pe_op op_mod (pv 4) (pv 5)) (pa_cons (pe_call G__law_draw hr (by rfl) T.m__law_draw T.F__law_draw.kp T.b__law_draw .nil pass0 (pa_cons (pv 1) (pa_cons (pv 5) pa_nil))) pa_nil))))) pa_nil))))))
            (pss_cons (ps_set (i := 7) nd rfl (.inl rfl) (pe_call G__law_pick hr (by rfl) T.m__law_pick T.F__law_pick.kp T.b__law_pick .nil pass0 (pa_cons (pv 1) (pa_cons (pe_lst (pa_cons pe_int (pa_cons (pe_call G__law_draw hr (by rfl) T.m__law_draw T.F__law_draw.kp T.b__law_draw .nil pass0 (pa_cons (pv 1) (pa_cons (pe_op op_mul pe_int (pe_op op_pow pe_int pe_int)) pa_nil))) (pa_cons (pe_op op_sub (pe_op op_pow pe_int pe_int) (pe_call G__law_draw hr (by rfl) T.m__law_draw T.F__law_draw.kp T.b__law_draw .nil pass0 (pa_cons (pv 1) (pa_cons (pe_op op_pow pe_int pe_int) pa_nil)))) pa_nil)))) pa_nil))))
            (pss_cons (ps_set (i := 8) nd rfl (.inr rfl) (pe_callN G_least_with hr (by rfl) T.m_least_with T.F_least_with.kp T.kb_least_with pass0 (pa_cons (pe_callTy call_tuple_of (by rfl) T.z_tuple (by decide +kernel) (pa_cons (pv 6) pa_nil)) (pa_cons (pe_callTy call_tuple_of (by rfl) T.z_tuple (by decide +kernel) (pa_cons (pv 3) pa_nil)) pa_nil)) (pk_cons (pv 7) pk_nil)))
            (C8.pss_cut (ps_if (pt_cmpR op_ne (pe_cmpR op_isN (pv 8) pe_non (nomark _)) (pe_call G__law_all_apart hr (by rfl) T.m__law_all_apart T.F__law_all_apart.kp T.b__law_all_apart .nil pass0 (pa_cons (pv 6) (pa_cons (pv 3) pa_nil))) (nomark _))
                (pss_one (ps_ret pe_bl))
                pss_nil)
            (C8.pss_cut (ps_if (pt_cmpR op_notN (pv 8) pe_non (nomark _))
                (pss_cons (ps_set (i := 9) nd rfl (.inl rfl) pe_int)
                  (pss_cons (ps_for PassesOwn.never rfl (pi_list (pv 3)) (pg_name (i := 5) nd rfl (.inl rfl))
                      (pss_one (ps_set (i := 9) nd rfl (.inl rfl) (pe_op op_fdiv (pe_op op_mul (pv 9) (pv 5)) (pe_call G__law_gcd hr (by rfl) T.m__law_gcd T.F__law_gcd.kp T.b__law_gcd .nil pass0 (pa_cons (pv 9) (pa_cons (pv 5) pa_nil)))))))
                  (pss_cons (ps_setLc (i := 10) (own := [("_law_k", 11)]) rfl nd rfl rfl (sw_true rfl rfl rfl (by decide +kernel)) (pi_range1 (by rfl) T.z_range (pa_cons (pe_callB call_len_seq (by rfl) T.z_len (by decide +kernel) (pa_cons (pv 3) pa_nil)) pa_nil)) (blkOk_by (own := [("_law_k", 11)]) (N := N_law) (sc := defScope s_law) (by decide +kernel)) (fun _ _ _ _ _ => (pg_name (i := 11) nd rfl (.inl rfl))) (fun _ _ _ _ _ => (pts_one (pt_cmpR op_ne (pe_op op_mod (pv 8) (pe_ix (ixLK (K := K) rfl) (pv 3) (pv 11) (fun _ _ => rfl))) (pe_ix (ixLK (K := K) rfl) (pv 6) (pv 11) (fun _ _ => rfl)) (nomark _)))) (fun _ _ _ _ _ => (pv 11)))
                  (pss_one (ps_if (PW.pt (pw_or (pt_cmpR (op_neD hr.units) (pv 10) (pe_lst pa_nil) (nomark _)) (pw_or1 (pt_not (pt_chain op_le op_lt (pv 7) (pv 8) (pe_op op_add (pv 7) (pv 9)))))))
                      (pss_one (ps_ret pe_bl))
                      pss_nil)))))
                pss_nil)
            (pss_one (ps_if (PW.pt (pw_and (pt_cmpR op_eq (pv 7) pe_int (nomark _)) (pw_and1 (pt_cmpR op_ne (pe_call G_least_with hr (by rfl) T.m_least_with T.F_least_with.kp T.b_least_with T.vv_least_with pass0 (pa_cons (pv 6) (pa_cons (pv 3) pa_nil))) (pv 8) (nomark _)))))
                (pss_one (ps_ret pe_bl))
                pss_nil))))))))))
      (pss_one (ps_ret (pe_and (pe_cmpR op_eq (pe_callN G_least_with hr (by rfl) T.m_least_with T.F_least_with.kp T.kb_least_with pass0 (pa_cons (pe_lst pa_nil) (pa_cons (pe_lst pa_nil) pa_nil)) (pk_cons pe_int pk_nil)) pe_int (nomark _)) (pe_one (pe_cmpR op_eq (pe_call G_least_with hr (by rfl) T.m_least_with T.F_least_with.kp T.b_least_with T.vv_least_with pass0 (pa_cons (pe_lst pa_nil) (pa_cons (pe_lst pa_nil) pa_nil))) pe_int (nomark _)))))))), ?_⟩
    -- feed
    refine ⟨_, rfl, a, ns, rfl, hS, hlen, fun d l cs H0 nd0 nl0 F0 s0 => ?_⟩
    refine ⟨_, rfl, by decide, by decide, ?_⟩
    refine for_range (lo := 0) (fun i σ H' => FeedAt H' d l cs (100 * i) ∧ ∃ y2 y3 y4 y5 y6 y7 y8 y9 y10 y11, σ = [some (.ref a), some (.ref d), y2, y3, y4, y5, y6, y7, y8, y9, y10, y11])
      ⟨F0, none, none, none, none, none, none, none, none, none, none, rfl⟩ ?_ ?_
    · rintro i σ H1 hi ⟨F1, y2, y3, y4, y5, y6, y7, y8, y9, y10, y11, rfl⟩
      have hi5 : i < 5 := hi
      -- turns
      refine ⟨_, rfl, d, l, cs, _, _, rfl, F1, by omega, by decide, by decide, fun r H2 hr2 F2 k2 => ⟨_, rfl, by omega, by omega, fun D nD => ?_⟩⟩
      have hDd : D ≠ d := ((F2.new nD).1).symm
      have hDl : D ≠ l := ((F2.new nD).2).symm
      refine lc_range (lo := 0) (fun j H' => FeedAt H' d l cs (100 * i + 1 + 4 * j) ∧ ∃ ts : List Nat, ts.length = j ∧ (∀ t ∈ ts, 1 ≤ t ∧ t ≤ 400) ∧ H' D = some (.lst (nV ts)))
        ⟨F2.same (same_new nD), [], rfl, fun t h => (by cases h), upd_same⟩ ?_ ?_
      · rintro j H3 hj ⟨F3, ts, hts, ht, hD⟩
        have hj5 : j < 6 := by
          have : j < (r : Int).toNat := hj
          omega
        refine ⟨rfl, _, rfl, d, l, cs, _, rfl, F3, by omega, fun t H4 h1 h2 F4 k4 => ⟨_, F3.lst k4 hD, ?_, ?_, ts ++ [t], ?_, ?_, ?_⟩⟩
        · rw [nV_len]
          exact small1000 (by omega)
        · exact (feed_upd F4 hDd hDl).mono (by omega)
        · rw [List.length_append, hts]
          rfl
        · intro t' ht'
          rcases List.mem_append.mp ht' with h | h
          · exact ht t' h
          · have e : t' = t := by simpa using h
            rw [e]
            exact ⟨h1, h2⟩
        · rw [upd_same, nV_snoc]
      · rintro H3 ⟨F3, ts, hts, ht, hD⟩
        have h5 : ts.length ≤ 5 := by
          have : ts.length = (r : Int).toNat := hts
          omega
        replace F3 := F3.mono (show _ ≤ 100 * i + 21 by have : ts.length = (r : Int).toNat := hts; omega)
        -- number
        refine ⟨_, rfl, _, _, rfl, rfl, ⟨by decide, by decide, by decide⟩, d, l, cs, _, _, rfl, F3, by omega, by decide, by decide, fun num H4 hnum F4 k4 => ?_⟩
        have hD4 := F3.lst k4 hD
        -- rests
        refine ⟨_, rfl, D, rfl, ⟨_, .inl (.inl hD4)⟩, fun D2 nD2 => ?_⟩
        have hD2d : D2 ≠ d := ((F4.new nD2).1).symm
        have hD2l : D2 ≠ l := ((F4.new nD2).2).symm
        have hDD : D ≠ D2 := ne_of_none hD4 nD2
        refine lc_list (K := K) (a := D) (xs := nV ts) (fun j H' => FeedAt H' d l cs (100 * i + 22 + 2 * j) ∧ H' D = some (.lst (nV ts)) ∧ ∃ rs : List Nat, rs.length = j ∧ (∀ (x r t : Nat), rs[x]? = some r → ts[x]? = some t → r < t) ∧ H' D2 = some (.lst (nV rs)))
          ⟨F4.same (same_new nD2), (by rw [upd_ne hDD]; exact hD4), [], rfl, fun x r t h => (by simp at h), upd_same⟩ (fun j H' _ h => .inl (.inl h.2.1)) ?_ ?_
        · rintro j x H5 hx ⟨F5, hD5, rs, hrs, hrt, hD25⟩
          obtain ⟨t, et, rfl⟩ := nV_of hx
          have hj5 : j < 5 := by
            have := (List.getElem?_eq_some_iff.mp et).1
            omega
          have htt := ht t (List.mem_of_getElem? et)
          have htp : (0 : Int) < (t : Int) := by omega
          refine ⟨rfl, _, rfl, _, rfl, _, rfl, _, _, rfl, rfl, htp, _, rfl, _, rfl, _, _, rfl, rfl, htp, _, rfl, _, rfl, _, _, rfl, rfl, htp, _, rfl, _, rfl, d, l, cs, _, _, rfl, F5, by omega, htp, by omega, fun r6 H6 hr6 F6 k6 => ?_⟩
          refine ⟨(by show 4 ≤ sizeLine; decide), fun p np => ?_⟩
          refine ⟨d, l, p, cs, _, _, rfl, F6.same (same_new np), by omega, .inl (.inl upd_same), (by show 0 < 4; decide), (by show 4 < 1000; decide), fun x7 H7 hx7 F7 k7 => ?_⟩
          have kk : Keep d H5 H7 := (k6.trans (keep_new np)).trans k7
          obtain ⟨r7, er7, hr7⟩ : ∃ r7 : Nat, x7 = .int (r7 : Int) ∧ r7 < t := by
            have hx7' : x7 = .int ((num : Int) % (t : Int)) ∨ x7 = .int (r6 : Int) := by
              have : x7 = .int ((num : Int) % (t : Int)) ∨ x7 = .int ((num : Int) % (t : Int)) ∨ x7 = .int ((num : Int) % (t : Int)) ∨ x7 = .int (r6 : Int) := by simpa using hx7
              rcases this with h | h | h | h
              · exact .inl h
              · exact .inl h
              · exact .inl h
              · exact .inr h
            rcases hx7' with h | h
            · exact ⟨num % t, h, Nat.mod_lt _ (by omega)⟩
            · exact ⟨r6, h, by omega⟩
          subst er7
          refine ⟨_, F5.lst kk hD25, ?_, ?_, ?_, rs ++ [r7], ?_, ?_, ?_⟩
          · rw [nV_len]
            exact small1000 (by omega)
          · exact (feed_upd F7 hD2d hD2l).mono (by omega)
          · rw [upd_ne hDD]
            exact F5.lst kk hD5
          · rw [List.length_append, hrs]
            rfl
          · intro x r t' hx' ht'
            by_cases hxl : x < rs.length
            · rw [List.getElem?_append_left hxl] at hx'
              exact hrt x r t' hx' ht'
            · have hxj : x = j := by
                have := (List.getElem?_eq_some_iff.mp hx').1
                rw [List.length_append] at this
                have h1 : [r7].length = 1 := rfl
                omega
              rw [hxj, et] at ht'
              cases ht'
              rw [List.getElem?_append_right (by omega), show x - rs.length = 0 by omega] at hx'
              cases hx'
              exact hr7
          · rw [upd_same, nV_snoc]
        · rintro H5 ⟨F5, hD5, rs, hrs, hrt, hD25⟩
          have hl : rs.length = ts.length := by rw [hrs, nV_len]
          replace F5 := F5.mono (show _ ≤ 100 * i + 32 by rw [nV_len]; omega)
          -- start
          refine ⟨_, rfl, _, rfl, _, _, rfl, rfl, ⟨by decide, by decide, by decide⟩, _, _, rfl, rfl, .inl ⟨by decide, by decide⟩, d, l, cs, _, _, rfl, F5, by omega, by decide, by decide, fun r6 H6 hr6 F6 k6 => ?_⟩
          refine ⟨_, _, rfl, rfl, ⟨by decide, by decide, by decide⟩, _, rfl, _, _, rfl, rfl, ⟨by decide, by decide, by decide⟩, d, l, cs, _, _, rfl, F6, by omega, by decide, by decide, fun r7 H7 hr7 F7 k7 => ?_⟩
          refine ⟨_, _, rfl, rfl, (by show 3 ≤ sizeLine; decide), fun p np => ?_⟩
          refine ⟨d, l, p, cs, _, _, rfl, F7.same (same_new np), by omega, .inl (.inl upd_same), (by show 0 < 3; decide), (by show 3 < 1000; decide), fun x8 H8 hx8 F8 k8 => ?_⟩
          have kk : Keep d H5 H8 := ((k6.trans k7).trans (keep_new np)).trans k8
          have hD8 := F5.lst kk hD5
          have hD28 := F5.lst kk hD25
          replace F8 := F8.mono (show _ ≤ 100 * i + 100 by omega)
          obtain ⟨start, es⟩ : ∃ start : Nat, x8 = .int (start : Int) := by
            have h7 : (r7 : Int) < 10 ^ 9 := hr7
            have : x8 = .int 0 ∨ x8 = .int (r6 : Int) ∨ x8 = .int ((10 : Int) ^ (60 : Int).toNat - (r7 : Int)) := by simpa using hx8
            rcases this with h | h | h
            · exact ⟨0, h⟩
            · exact ⟨r6, h⟩
            · refine ⟨10 ^ 60 - r7, h.trans ?_⟩
              have : ((10 ^ 60 - r7 : Nat) : Int) = (10 : Int) ^ (60 : Int).toNat - (r7 : Int) := by
                show ((10 ^ 60 - r7 : Nat) : Int) = (10 : Int) ^ 60 - (r7 : Int)
                omega
              rw [this]
          subst es
          -- told
          refine ⟨_, rfl, D2, _, rfl, .inl ⟨.inl (.inl hD28), fun U1 nU1 => ?_⟩⟩
          have s1 : Same H8 (upd H8 U1 (.tup (nV rs))) := same_new nU1
          refine ⟨_, rfl, D, _, rfl, .inl ⟨.inl (.inl (s1 _ _ hD8)), fun U2 nU2 => ?_⟩⟩
          have s2 : Same (upd H8 U1 (.tup (nV rs))) (upd (upd H8 U1 (.tup (nV rs))) U2 (.tup (nV ts))) := same_new nU2
          refine ⟨_, rfl, rfl, rfl, .tup U1, .tup U2, rs, ts, start, rfl, .inl (.inl (s2 _ _ upd_same)), .inl (.inl upd_same), hl, h5, ht, hrt, fun o H9 s3 lw => ?_⟩
          have s9 : Same H8 H9 := (s1.trans s2).trans s3
          have hD9 := s9 _ _ hD8
          have hD29 := s9 _ _ hD28
          have F9 := F8.same s9
          -- (told is None) != all_apart
          refine ⟨fun σ' H' => H' = H9 ∧ ∃ y5 y9 y10 y11, σ' = [some (.ref a), some (.ref d), some (.int (0 + (i : Int))), some (.ref D), some (.int (num : Int)), y5, some (.ref D2), some (.int (start : Int)), some (oV o), y9, y10, y11], ?_, ?_⟩
          · cases o with
            | none =>
              refine ⟨_, rfl, rfl, _, rfl, _, rfl, D2, D, rs, ts, rfl, .inl (.inl hD29), .inl (.inl hD9), hl, h5, ht, fun _ => ⟨rfl, _, rfl, ?_⟩, fun no => absurd lw no⟩
              exact iteNS rfl ⟨rfl, _, _, _, _, rfl⟩
            | some n =>
              refine ⟨_, rfl, rfl, _, rfl, _, rfl, D2, D, rs, ts, rfl, .inl (.inl hD29), .inl (.inl hD9), hl, h5, ht, fun ap => absurd ap (leaves_not_apart lw.1), fun _ => ⟨rfl, _, rfl, ?_⟩⟩
              exact iteNS rfl ⟨rfl, _, _, _, _, rfl⟩
          · rintro σ' H' ⟨rfl, y5', y9', y10', y11', rfl⟩
            -- if told is not None
            refine ⟨fun σ' H'' => Same H' H'' ∧ ∃ y5 y9 y10 y11, σ' = [some (.ref a), some (.ref d), some (.int (0 + (i : Int))), some (.ref D), some (.int (num : Int)), y5, some (.ref D2), some (.int (start : Int)), some (oV o), y9, y10, y11], ?_, ?_⟩
            · cases o with
              | none => exact ⟨_, rfl, rfl, _, rfl, iteNS rfl ⟨Same.refl _, _, _, _, _, rfl⟩⟩
              | some n =>
                obtain ⟨lv, hn1, hn2⟩ := id lw
                refine ⟨_, rfl, rfl, _, rfl, iteNY (fun z => by cases z) ?_⟩
                -- step = 1, the loop
                refine ⟨_, rfl, D, rfl, ⟨_, .inl (.inl hD9)⟩, ?_⟩
                refine for_list (K := K) (a := D) (xs := nV ts) (fun j σ' H'' => H'' = H' ∧ ∃ y5, σ' = [some (.ref a), some (.ref d), some (.int (0 + (i : Int))), some (.ref D), some (.int (num : Int)), y5, some (.ref D2), some (.int (start : Int)), some (.int (n : Int)), some (.int ((lcmL (ts.take j) : Nat) : Int)), y10', y11'])
                  ⟨rfl, y5', rfl⟩ (fun j σ' H'' _ h => by rw [h.1]; exact .inl (.inl hD9)) ?_ ?_
                · rintro j x σ' H'' hx ⟨rfl, y5'', rfl⟩
                  obtain ⟨t, et, rfl⟩ := nV_of hx
                  have hjt : j < ts.length := (List.getElem?_eq_some_iff.mp et).1
                  have htt := ht t (List.mem_of_getElem? et)
                  have hg0 : 0 < Nat.gcd (lcmL (ts.take j)) t := Nat.gcd_pos_of_pos_right _ htt.1
                  have hg1 : Nat.gcd (lcmL (ts.take j)) t ≤ t := Nat.gcd_le_right _ htt.1
                  refine ⟨_, rfl, _, rfl, _, _, rfl, rfl, .inr ⟨by omega, by omega⟩, _, rfl, _, rfl, lcmL (ts.take j), t, rfl, _, _, rfl, rfl, ⟨?_, ?_⟩, ?_⟩
                  · show (0 : Int) < ((Nat.gcd (lcmL (ts.take j)) t : Nat) : Int)
                    omega
                  · show ((Nat.gcd (lcmL (ts.take j)) t : Nat) : Int) < 1073741824
                    omega
                  · refine ⟨rfl, some (.int (t : Int)), ?_⟩
                    have e : ((lcmL (ts.take (j + 1)) : Nat) : Int) = ((lcmL (ts.take j) : Nat) : Int) * (t : Int) / ((Nat.gcd (lcmL (ts.take j)) t : Nat) : Int) := by
                      rw [take_snoc et, lcmL_snoc]
                      unfold Nat.lcm
                      rw [Int.natCast_ediv, Int.natCast_mul]
                    rw [e]
                    rfl
                · rintro σ' H'' ⟨rfl, y5'', rfl⟩
                  have eL : lcmL (ts.take (nV ts).length) = lcmL ts := by rw [nV_len, List.take_length]
                  rw [eL]
                  -- bad
                  refine ⟨_, rfl, D, _, rfl, .inl (.inl (.inl hD9)), _, rfl, (by rw [nV_len]; omega), (by rw [nV_len]; omega), fun D3 nD3 => ?_⟩
                  refine lc_range (lo := 0) (fun j Hx => Same H'' Hx ∧ Hx D3 = some (.lst [])) ⟨same_new nD3, upd_same⟩ ?_ ?_
                  · rintro j Hx hj ⟨sx, eD3⟩
                    have hjt : j < ts.length := by
                      have : j < (nV ts).length := hj
                      rwa [nV_len] at this
                    have et := List.getElem?_eq_getElem hjt
                    have er := List.getElem?_eq_getElem (show j < rs.length by omega)
                    have htt := ht _ (List.mem_of_getElem? et)
                    refine ⟨rfl, _, rfl, _, rfl, _, rfl, D, _, _, _, rfl, rfl, .inl (.inl (sx _ _ hD9)), at0 et, _, _, rfl, rfl, (by show (0 : Int) < (ts[j] : Int); omega), _, rfl, _, rfl, D2, _, _, _, rfl, rfl, .inl (.inl (sx _ _ hD29)), at0 er, rfl, _, rfl, ?_⟩
                    refine iteNS ?_ ⟨sx, eD3⟩
                    have := lv j _ _ er et
                    show V.int ((n : Int) % (ts[j] : Int)) = V.int (rs[j] : Int)
                    rw [← this, Int.natCast_emod]
                  · rintro Hx ⟨sx, eD3⟩
                    -- bad != [] or not start <= told < start + step
                    refine ⟨_, rfl, Nat.zero_le _, fun p np => ⟨.list [], .list [], .lst (.inl (.inl (same_new np _ _ eD3))) .nil, .lst (.inl (.inl upd_same)) .nil, by decide, by decide, _, rfl, ?_⟩⟩
                    have s9 : Same H'' (upd Hx p (.lst [])) := sx.trans (same_new np)
                    have en : PyData.eqv (.list []) (.list []) = true := eqv_nil []
                    rw [en]
                    refine ⟨_, rfl, _, rfl, _, _, rfl, rfl, _, rfl, iteY (by omega) ⟨_, rfl, _, rfl, _, _, rfl, rfl, _, _, rfl, rfl, _, rfl, iteNS (by omega) ⟨s9, _, _, _, _, rfl⟩⟩⟩
            · rintro σ' H'' ⟨sH, y5'', y9'', y10'', y11'', rfl⟩
              have hDx := sH _ _ hD9
              have hD2x := sH _ _ hD29
              have Fx := F9.same sH
              have fin : ∀ H3, Same H'' H3 → FeedAt H3 d l cs (100 * (i + 1)) := fun H3 s => (Fx.same s).mono (by omega)
              -- if start == 0 and ..
              refine ⟨_, rfl, rfl, _, rfl, ite2 (fun c => ?_) (fun c => iteF ⟨fin _ (Same.refl _), _, _, _, _, _, _, _, _, _, _, rfl⟩)⟩
              have hs0 : start = 0 := by
                have := V.int.inj (of_decide_eq_true c)
                omega
              subst hs0
              refine ⟨_, rfl, _, rfl, .lst D2, .lst D, rs, ts, 0, rfl, .inl (.inl hD2x), .inl (.inl hDx), hl, h5, ht, hrt, fun o' H3 s3 lw' => ?_⟩
              have eo : o' = o := LW.same hl lw' lw
              subst eo
              have sc : scal (oV o') (oV o') = true := by cases o' <;> rfl
              exact ⟨_, rfl, sc, _, rfl, iteNS rfl ⟨fin _ s3, _, _, _, _, _, _, _, _, _, _, rfl⟩⟩
    · rintro σ H1 ⟨F1, y2, y3, y4, y5, y6, y7, y8, y9, y10, y11, rfl⟩
      refine ⟨Nat.zero_le _, fun p np => ⟨Nat.zero_le _, fun p2 np2 => ?_⟩⟩
      have e1 : (upd (upd H1 p (.lst [])) p2 (.lst [])) p = some (.lst []) := same_new np2 _ _ upd_same
      refine ⟨rfl, rfl, .lst p, .lst p2, [], [], 17, rfl, .inl (.inl e1), .inl (.inl upd_same), rfl, Nat.zero_le _, fun t h => (by cases h), fun x r t h => (by simp at h), fun o H2 s2 lw => ?_⟩
      rw [lw_nil lw]
      refine ⟨rfl, _, rfl, ?_⟩
      refine ⟨Nat.zero_le _, fun p3 np3 => ⟨Nat.zero_le _, fun p4 np4 => ?_⟩⟩
      have e2 : (upd (upd H2 p3 (.lst [])) p4 (.lst [])) p3 = some (.lst []) := same_new np4 _ _ upd_same
      refine ⟨.lst p3, .lst p4, [], [], 0, rfl, .inl (.inl e2), .inl (.inl upd_same), rfl, Nat.zero_le _, fun t h => (by cases h), fun x r t h => (by simp at h), fun o' H3 s3 lw' => ?_⟩
      rw [lw_nil lw']
      exact ⟨rfl, q _⟩
end
end K78
set_option Elab.async false
set_option linter.all false
set_option maxRecDepth 100000
set_option maxHeartbeats 4000000
namespace K78
open PySem PySem.Spec PyProof.Rows L2 Fd M78
theorem all_mk {l : PySem.W.OpenLaw} {w : World} {K : PySem.W.Frag} {h : Heap} {mg : Str → Option Value} {fa D : Addr} (X : K.In h) (G : h.Ns mainGlobals mg) (hfa : mg "law" = some (.ref fa))
    {f1 f2 f3 f4 f5 f6 f7 f8 f9 fL : Addr} {od1 an1 od2 an2 od3 an3 od4 an4 od5 an5 od6 an6 od7 an7 od8 an8 od9 an9 odL anL : Option Addr} {sl1 sl2 sl3 sl4 sl5 sl6 sl7 sl8 sl9 slL : Array (Option Value)}
    {oc1 kV1 dc1 pm1 cd1 ct1 oc2 kV2 dc2 pm2 cd2 ct2 oc3 kV3 dc3 pm3 cd3 ct3 oc4 kV4 dc4 pm4 cd4 ct4 oc5 kV5 dc5 pm5 cd5 ct5 oc6 kV6 dc6 pm6 cd6 ct6 oc7 kV7 dc7 pm7 cd7 ct7 oc8 kV8 dc8 pm8 cd8 ct8 oc9 kV9 dc9 pm9 cd9 ct9 ocL dcL pmL cdL ctL : Value} {tL : Tok}
    (a1 : PySem.W.nsIn K mainGlobals "divisor" = some (some (.ref f1))) (l1 : K.lookup f1 = some ⟨oc1, od1, .func (PySem.W.fnOf "divisor" "divisor" (defArgs s_divisor) (defBody s_divisor) (defScope s_divisor) .none kV1 dc1 pm1 an1 cd1 ct1), sl1⟩) (c1 : PySem.W.codeIn K cd1 "divisor" = true) (k1 : PySem.W.keepIn K (.ref f1) = true)
    (a2 : PySem.W.nsIn K mainGlobals "inverse_by" = some (some (.ref f2))) (l2 : K.lookup f2 = some ⟨oc2, od2, .func (PySem.W.fnOf "inverse_by" "inverse_by" (defArgs s_inverse_by) (defBody s_inverse_by) (defScope s_inverse_by) .none kV2 dc2 pm2 an2 cd2 ct2), sl2⟩) (c2 : PySem.W.codeIn K cd2 "inverse_by" = true) (k2 : PySem.W.keepIn K (.ref f2) = true)
    (a3 : PySem.W.nsIn K mainGlobals "_law_feed" = some (some (.ref f3))) (l3 : K.lookup f3 = some ⟨oc3, od3, .func (PySem.W.fnOf "_law_feed" "_law_feed" (defArgs s__law_feed) (defBody s__law_feed) (defScope s__law_feed) .none kV3 dc3 pm3 an3 cd3 ct3), sl3⟩) (c3 : PySem.W.codeIn K cd3 "_law_feed" = true) (k3 : PySem.W.keepIn K (.ref f3) = true)
    (a4 : PySem.W.nsIn K mainGlobals "_law_draw" = some (some (.ref f4))) (l4 : K.lookup f4 = some ⟨oc4, od4, .func (PySem.W.fnOf "_law_draw" "_law_draw" (defArgs s__law_draw) (defBody s__law_draw) (defScope s__law_draw) .none kV4 dc4 pm4 an4 cd4 ct4), sl4⟩) (c4 : PySem.W.codeIn K cd4 "_law_draw" = true) (k4 : PySem.W.keepIn K (.ref f4) = true)
    (a5 : PySem.W.nsIn K mainGlobals "_law_pick" = some (some (.ref f5))) (l5 : K.lookup f5 = some ⟨oc5, od5, .func (PySem.W.fnOf "_law_pick" "_law_pick" (defArgs s__law_pick) (defBody s__law_pick) (defScope s__law_pick) .none kV5 dc5 pm5 an5 cd5 ct5), sl5⟩) (c5 : PySem.W.codeIn K cd5 "_law_pick" = true) (k5 : PySem.W.keepIn K (.ref f5) = true)
    (a6 : PySem.W.nsIn K mainGlobals "_law_gcd" = some (some (.ref f6))) (l6 : K.lookup f6 = some ⟨oc6, od6, .func (PySem.W.fnOf "_law_gcd" "_law_gcd" (defArgs s__law_gcd) (defBody s__law_gcd) (defScope s__law_gcd) .none kV6 dc6 pm6 an6 cd6 ct6), sl6⟩) (c6 : PySem.W.codeIn K cd6 "_law_gcd" = true) (k6 : PySem.W.keepIn K (.ref f6) = true)
    (a7 : PySem.W.nsIn K mainGlobals "_law_turn" = some (some (.ref f7))) (l7 : K.lookup f7 = some ⟨oc7, od7, .func (PySem.W.fnOf "_law_turn" "_law_turn" (defArgs s__law_turn) (defBody s__law_turn) (defScope s__law_turn) .none kV7 dc7 pm7 an7 cd7 ct7), sl7⟩) (c7 : PySem.W.codeIn K cd7 "_law_turn" = true) (k7 : PySem.W.keepIn K (.ref f7) = true)
    (a8 : PySem.W.nsIn K mainGlobals "_law_all_apart" = some (some (.ref f8))) (l8 : K.lookup f8 = some ⟨oc8, od8, .func (PySem.W.fnOf "_law_all_apart" "_law_all_apart" (defArgs s__law_all_apart) (defBody s__law_all_apart) (defScope s__law_all_apart) .none kV8 dc8 pm8 an8 cd8 ct8), sl8⟩) (c8 : PySem.W.codeIn K cd8 "_law_all_apart" = true) (k8 : PySem.W.keepIn K (.ref f8) = true)
    (a9 : PySem.W.nsIn K mainGlobals "law" = some (some (.ref f9))) (l9 : K.lookup f9 = some ⟨oc9, od9, .func (PySem.W.fnOf "law" "law" (defArgs s_law) (defBody s_law) (defScope s_law) .none kV9 dc9 pm9 an9 cd9 ct9), sl9⟩) (c9 : PySem.W.codeIn K cd9 "law" = true) (k9 : PySem.W.keepIn K (.ref f9) = true)
    (aL : PySem.W.nsIn K mainGlobals "least_with" = some (some (.ref fL))) (lL : K.lookup fL = some ⟨ocL, odL, .func (PySem.W.fnOf "least_with" "least_with" (defArgs s_least_with) (defBody s_least_with) (defScope s_least_with) .none (.ref D) dcL pmL anL cdL ctL), slL⟩) (cL : PySem.W.codeIn K cdL "least_with" = true) (kL : PySem.W.keepIn K (.ref fL) = true) (dL : PySem.W.nsIn K D "least" = some (some (.int 0 tL)))
    (z0 : PySem.W.nsIn K mainGlobals "len" = some none)
    (z1 : PySem.W.nsIn K mainGlobals "abs" = some none)
    (z2 : PySem.W.nsIn K mainGlobals "max" = some none)
    (z3 : PySem.W.nsIn K mainGlobals "zip" = some none)
    (z4 : PySem.W.nsIn K mainGlobals "range" = some none)
    (z5 : PySem.W.nsIn K mainGlobals "tuple" = some none)
    : ∃ fd : FuncData, (∀ (s : Shared) (v : Value), BindsTo s fd ⟨[v], []⟩ [("_law_script", v)]) ∧ ∀ base : Heap, K.In base → base.Ns mainGlobals mg → FnOk l.prog w K mg base CX0 4 fa fd ["_law_script"] (spLaw K) := by
  have e := hfa.symm.trans (PySem.W.mg_of X G a9)
  cases e
  have F1 := fun_mk (st := s_divisor) l1 c1 k1
  have F2 := fun_mk (st := s_inverse_by) l2 c2 k2
  have F3 := fun_mk (st := s__law_feed) l3 c3 k3
  have F4 := fun_mk (st := s__law_draw) l4 c4 k4
  have F5 := fun_mk (st := s__law_pick) l5 c5 k5
  have F6 := fun_mk (st := s__law_gcd) l6 c6 k6
  have F7 := fun_mk (st := s__law_turn) l7 c7 k7
  have F8 := fun_mk (st := s__law_all_apart) l8 c8 k8
  have F9 := fun_mk (st := s_law) l9 c9 k9
  have b1 := F1.binds (ps := ["one", "other"]) fun _ _ _ _ _ _ us hl => match us, hl with | [_, _], _ => rfl
  have b2 := F2.binds (ps := ["one", "turn"]) fun _ _ _ _ _ _ us hl => match us, hl with | [_, _], _ => rfl
  have b3 := F3.binds (ps := ["_law_script"]) fun _ _ _ _ _ _ us hl => match us, hl with | [_], _ => rfl
  have b4 := F4.binds (ps := ["_law_feed_here", "_law_many"]) fun _ _ _ _ _ _ us hl => match us, hl with | [_, _], _ => rfl
  have b5 := F5.binds (ps := ["_law_feed_here", "_law_some"]) fun _ _ _ _ _ _ us hl => match us, hl with | [_, _], _ => rfl
  have b6 := F6.binds (ps := ["_law_one", "_law_other"]) fun _ _ _ _ _ _ us hl => match us, hl with | [_, _], _ => rfl
  have b7 := F7.binds (ps := ["_law_feed_here"]) fun _ _ _ _ _ _ us hl => match us, hl with | [_], _ => rfl
  have b8 := F8.binds (ps := ["_law_rests", "_law_turns"]) fun _ _ _ _ _ _ us hl => match us, hl with | [_, _], _ => rfl
  have FL : FunD K "least_with" "least_with" (defArgs s_least_with) (defBody s_least_with) (defScope s_least_with) [] [("least", .int 0)] fL (PySem.W.fnOf "least_with" "least_with" (defArgs s_least_with) (defBody s_least_with) (defScope s_least_with) .none (.ref D) dcL pmL anL cdL ctL) :=
    ⟨⟨ocL, odL, .none, .ref D, dcL, pmL, anL, cdL, ctL, slL, rfl, lL, cL, .inl ⟨rfl, rfl⟩, .inr ⟨D, rfl, fun q hq => by
      have e : q = (("least" : Str), V.int 0) := by simpa using hq
      subst e
      exact ⟨_, dL, _, rfl⟩⟩⟩, kL⟩
  obtain ⟨ds, vds, bL⟩ := FL.binds0 (ps := ["rests", "rounds", "least"]) 2 (by intro z; cases z) rfl fun D' doc pm an cdv ct us ks hu hk => by
    match us, hu, ks, hk with
    | [_, _], _, [_], _ => exact ⟨_, _, _, _, _, _, rfl, rfl, rfl⟩
  have kbL : KBn K (PySem.W.fnOf "least_with" "least_with" (defArgs s_least_with) (defBody s_least_with) (defScope s_least_with) .none (.ref D) dcL pmL anL cdL ctL) ["rests", "rounds", "least"] 2 ["least"] (fun us ws => us ++ ws) (fun vs zs => vs ++ zs) :=
    ⟨fun s us ws _ hu hw => by
      match us, hu, ws, hw with
      | [_, _], _, [_], _ => exact .of_eq rfl, fun r1 r2 => r1.append r2⟩
  have T : Txt K mg { f_divisor := f1, d_divisor := _, f_inverse_by := f2, d_inverse_by := _, f__law_feed := f3, d__law_feed := _, f__law_draw := f4, d__law_draw := _, f__law_pick := f5, d__law_pick := _, f__law_gcd := f6, d__law_gcd := _, f__law_turn := f7, d__law_turn := _, f__law_all_apart := f8, d__law_all_apart := _, f_least_with := fL, d_least_with := _, v_least_with := ds } :=
    { F_divisor := F1, m_divisor := PySem.W.mg_of X G a1, b_divisor := b1,
      F_inverse_by := F2, m_inverse_by := PySem.W.mg_of X G a2, b_inverse_by := b2,
      F__law_feed := F3, m__law_feed := PySem.W.mg_of X G a3, b__law_feed := b3,
      F__law_draw := F4, m__law_draw := PySem.W.mg_of X G a4, b__law_draw := b4,
      F__law_pick := F5, m__law_pick := PySem.W.mg_of X G a5, b__law_pick := b5,
      F__law_gcd := F6, m__law_gcd := PySem.W.mg_of X G a6, b__law_gcd := b6,
      F__law_turn := F7, m__law_turn := PySem.W.mg_of X G a7, b__law_turn := b7,
      F__law_all_apart := F8, m__law_all_apart := PySem.W.mg_of X G a8, b__law_all_apart := b8,
      F_least_with := FL, m_least_with := PySem.W.mg_of X G aL, vv_least_with := vds, b_least_with := bL, kb_least_with := kbL,
      z_len := PySem.W.mg_none_of X G z0,
      z_abs := PySem.W.mg_none_of X G z1,
      z_max := PySem.W.mg_none_of X G z2,
      z_zip := PySem.W.mg_none_of X G z3,
      z_range := PySem.W.mg_none_of X G z4,
      z_tuple := PySem.W.mg_none_of X G z5 }
  exact ⟨_, fun s v => .of_eq rfl, fun base _ _ => ok_law F9 T⟩
end K78
open PySem PySem.W PyProof.Rows
set_option maxRecDepth 100000 in
set_option maxHeartbeats 0 in
theorem PySem.Challenge.cw_bandprint_k78_numbers_that_leave_rests_holds : PySem.Challenge.rw_bandprint_k78_numbers_that_leave_rests.Holds := by
  w_on; o_law; k_head; (case hw => w_witness2)
  k_fill
  refine L2.walk_of (l := PySem.Challenge.rw_bandprint_k78_numbers_that_leave_rests) (n := 63) (k := 4) (x := "_law_script") (CX := fun _ => L2.CX0) (sp := fun w => K78.spLaw _) rfl (by decide) rfl ⟨rfl, by decide, by decide⟩ (fun w h Y => PySem.W.kIn_of Y) ?F (fun _ _ a ns hl _ hS => ⟨a, ns, rfl, hS, hl, fun _ => rfl⟩) (fun _ _ _ _ _ h => h)
  case F =>
    intro w mg fa h KX G hmg
    refine' K78.all_mk KX G hmg ?a1 ?l1 ?c1 ?k1 ?a2 ?l2 ?c2 ?k2 ?a3 ?l3 ?c3 ?k3 ?a4 ?l4 ?c4 ?k4 ?a5 ?l5 ?c5 ?k5 ?a6 ?l6 ?c6 ?k6 ?a7 ?l7 ?c7 ?k7 ?a8 ?l8 ?c8 ?k8 ?a9 ?l9 ?c9 ?k9 ?aL ?lL ?cL ?kL ?dL ?z0 ?z1 ?z2 ?z3 ?z4 ?z5
    (case a1 => k_is); (case l1 => k_is); (case c1 => k_is); (case k1 => k_is); (case a2 => k_is); (case l2 => k_is)
    (case c2 => k_is); (case k2 => k_is); (case a3 => k_is); (case l3 => k_is); (case c3 => k_is); (case k3 => k_is)
    (case a4 => k_is); (case l4 => k_is); (case c4 => k_is); (case k4 => k_is); (case a5 => k_is); (case l5 => k_is)
    (case c5 => k_is); (case k5 => k_is); (case a6 => k_is); (case l6 => k_is); (case c6 => k_is); (case k6 => k_is)
    (case a7 => k_is); (case l7 => k_is); (case c7 => k_is); (case k7 => k_is); (case a8 => k_is); (case l8 => k_is)
    (case c8 => k_is); (case k8 => k_is); (case a9 => k_is); (case l9 => k_is); (case c9 => k_is); (case k9 => k_is)
    (case aL => k_is); (case lL => k_is); (case cL => k_is); (case kL => k_is); (case dL => k_is); (case z0 => k_is)
    (case z1 => k_is); (case z2 => k_is); (case z3 => k_is); (case z4 => k_is); (case z5 => k_is)
