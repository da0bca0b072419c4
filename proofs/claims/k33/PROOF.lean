import PyProof.Rows.All
import Wide.All
import OpenK.AllK
import Wide.FinOn
import KE.GoesMore
import HandS.ForMost
import KE.GoesEnumKw
import HandS.Wide
import HandS.Style
import HandS.Defaults
import HandS.Flow
import KE.KEqSeq
import PyProof.Rows.NestShow
import KE.KFromBytes
import KE.KExcInit
import KE.KExcIs
import HandS.Exc
import HandS.ExcInit
import HandS.ExcField
import HandS.Replace
import PyProof.ListStr
import PyProof.StrOps2
import HandS.Codes
import HandS.IsInst
import HandS.WordsExc
import HandS.Walk
import HandS.ExcIs
import PySem.Challenge.RW_bandprint_k33_maps_of_signs
set_option Elab.async false
set_option linter.all false
set_option maxRecDepth 100000
set_option maxHeartbeats 2000000
namespace Zs
open PySem
open PySem.Sem (wp)
/-- a zip made with strict = b -/
abbrev IsZipB (b : Bool) (h : Heap) (z TI TO : Addr) (f0 : Value) : Prop :=
  h.get? z = some { cls := .type "zip", dict := none, data := .fields #[f0, .bool false, .bool b, .ref TI, .ref TO], slots := #[] }
section
variable {prog : Program} {w : World} {A : Around} {E : Value → Shared → Prop} {s : Shared}
variable {it : Addr} {fp : List Addr} {n i : Nat} {P : Nat → Value → Prop} {St : Nat → Heap → Prop}
theorem draw_item {Q : Option Value → Shared → Prop} (D : Draws prog w A it fp n P St) (hi : i < n)
    (st : St i s.heap)
    (hQ : ∀ x h' tk, P i x → St (i + 1) h' → Heap.SameBut it s.heap h' →
      Q (some x) { s with heap := h', toks := tk }) :
    wpAny (model prog w) A (Builtin.SmallTypes.nextOrEnd (.ref it)) Q E s := by
  unfold Builtin.SmallTypes.nextOrEnd
  exact wpAny_bind (wpAny_attempt (D.item i s _ _ hi st
    fun x h' tk p st' sb => wpAny_pure (hQ x h' tk p st' sb)))
theorem draw_done {Q : Option Value → Shared → Prop} (D : Draws prog w A it fp n P St)
    (st : St n s.heap) (hQ : ∀ h', Heap.ExtBut it s.heap h' → Q none { s with heap := h' }) :
    wpAny (model prog w) A (Builtin.SmallTypes.nextOrEnd (.ref it)) Q E s := by
  unfold Builtin.SmallTypes.nextOrEnd
  refine wpAny_bind (wpAny_attempt (D.done s _ _ st fun h' e hk he => ?_))
  obtain ⟨o, ho, hc⟩ := he
  refine wpAny_bind (wpAny_isInstance (T := "StopIteration") (b := true)
    ⟨o, ho, hc⟩ isSubtype_stop ?_)
  exact wpAny_pure (hQ h' hk)
theorem stop_raises {α : Type} {Q : α → Shared → Prop} (hh : A.handled = none)
    (hE : ∀ h' e, (∀ c o, s.heap.get? c = some o → h'.get? c = some o) →
      (∃ o, h'.get? e = some o ∧ o.cls = .type "StopIteration") → E (.ref e) { s with heap := h' }) :
    wpAny (model prog w) A (Builtin.SmallTypes.stopIteration (α := α)) Q E s := by
  unfold Builtin.SmallTypes.stopIteration
  refine wpAny_bind ?_
  simp only [newExc, newTuple]
  refine wpAny_bind (wpAny_newObj_type ?_ (by size_fits))
  refine wpAny_bind (m := firstArgMember _ _) (wpAny_of_eq (a := Value.none) (by first | rfl | (simp only [firstArgMember]; rfl)) ?_)
  refine wpAny_newObj_type ?_ (by size_fits)
  simp only [raiseNew]
  refine wpAny_bind (wpAny_handled ?_)
  rw [hh]
  refine wpAny_bind (wpAny_pure (wpAny_throw ?_))
  exact hE _ _ (fun c o e => Heap.get?_push_of_some _ (Heap.get?_push_of_some _ e))
    ⟨_, Heap.get?_push_size _ rfl, rfl⟩
end
section
variable {prog : Program} {w : World} {A : Around} {E : Value → Shared → Prop} {s : Shared} {z TI TO i1 i2 : Addr} {fp1 fp2 : List Addr}
  {n1 n2 i : Nat} {P1 P2 : Nat → Value → Prop} {St1 St2 : Nat → Heap → Prop} {a1 a2 : Value}
theorem next_item {Q : Value → Shared → Prop} (S : ZipSep2 z TI TO i1 i2 fp1 fp2)
    (D1 : Draws prog w A i1 fp1 n1 P1 St1) (D2 : Draws prog w A i2 fp2 n2 P2 St2)
    (hz : IsZipB true s.heap z TI TO .none) (hTI : IsTupOf2 s.heap TI (.ref i1) (.ref i2))
    (hTO : IsTupOf2 s.heap TO a1 a2) (st1 : St1 i s.heap) (st2 : St2 i s.heap) (l1 : i < n1) (l2 : i < n2)
    (hQ : ∀ x1 x2 h' tk, P1 i x1 → P2 i x2 → IsZipB true h' z TI TO (rawInt s.heap.objs.size) →
      IsTupOf2 h' TO x1 x2 → St1 (i + 1) h' → St2 (i + 1) h' → IsTupOf2 h' s.heap.objs.size x1 x2 →
      h'.objs.size = s.heap.objs.size + 1 →
      (∀ c o, c ≠ z → c ≠ TO → c ≠ i1 → c ≠ i2 → s.heap.get? c = some o → h'.get? c = some o) →
      Q (.ref s.heap.objs.size) { s with heap := h', toks := tk }) :
    wpAny (model prog w) A (Builtin.«zip.__next__» ⟨[.ref z], []⟩)
      (fun fin s' => ∃ v, fin = .done (.ret v) ∧ Q v s') E s := by
  obtain ⟨hp, g, d, tk0, os⟩ := s
  show wpAny _ _ (field (.ref z) 2 >>= _) _ _ _
  refine wpAny_bind (wpAny_field hz rfl (x := .bool true) rfl ?_)
  show wpAny _ _ (field (.ref z) 3 >>= _) _ _ _
  refine wpAny_bind (wpAny_field hz rfl (x := .ref TI) rfl ?_)
  refine wpAny_bind (wpAny_seqItems hTI rfl ?_)
  show wpAny _ _ (Builtin.SmallTypes.ownedTupleIsFree (.ref z) >>= _) _ _ _
  refine wpAny_bind ?_
  unfold Builtin.SmallTypes.ownedTupleIsFree
  refine wpAny_bind (wpAny_field hz rfl (x := .none) rfl (wpAny_pure ?_))
  simp only [if_true]
  refine wpAny_bind (wpAny_rule ?_)
  refine wpAny_bind (wpAny_field hz rfl (x := .ref TO) rfl ?_)
  refine wpAny_bind (wpAny_setField_rec hz (by simp) fun g0 hz0 s0 => ?_)
  replace hz0 : IsZipB true g0 z TI TO .ellipsis := hz0
  replace s0 : Heap.SameBut z hp g0 := s0
  refine wpAny_bind ?_
  simp only [List.zipIdx_cons, List.zipIdx_nil, List.forIn_cons, List.forIn_nil]
  refine wpAny_bind (wpAny_bind (wpAny_onRaise ?_))
  show wpAny _ _ (Builtin.SmallTypes.nextOrEnd (.ref i1)) _ _ ⟨g0, g, d, tk0, os⟩
  refine draw_item D1 l1 (D1.over st1 s0 S.zf1) fun x1 p1 tk1 hx1 sn1 hp1 => ?_
  replace hp1 : Heap.SameBut i1 g0 p1 := hp1
  have u1 : IsTupOf2 p1 TO a1 a2 := hp1.extBut _ _ S.Ti1 (s0.extBut _ _ S.TOz hTO)
  refine wpAny_bind (wpAny_seqItems (s := ⟨p1, g, d, tk1, os⟩) u1 rfl ?_)
  refine wpAny_bind (updateSeq_IsTupOf2 (s := ⟨p1, g, d, tk1, os⟩) u1 fun g1 t1 s1 => ?_)
  replace t1 : IsTupOf2 g1 TO x1 a2 := t1
  replace s1 : Heap.SameBut TO p1 g1 := s1
  refine wpAny_bind (wpAny_letGo (wpAny_pure ?_))
  refine wpAny_bind (wpAny_bind (wpAny_onRaise ?_))
  show wpAny _ _ (Builtin.SmallTypes.nextOrEnd (.ref i2)) _ _ ⟨g1, g, d, tk1, os⟩
  refine draw_item D2 l2 (D2.over (D2.over (D2.over st2 s0 S.zf2) hp1 S.sep1_2) s1 S.Tf2) fun x2 p2 tk2 hx2 sn2 hp2 => ?_
  replace hp2 : Heap.SameBut i2 g1 p2 := hp2
  have u2 : IsTupOf2 p2 TO x1 a2 := hp2.extBut _ _ S.Ti2 t1
  refine wpAny_bind (wpAny_seqItems (s := ⟨p2, g, d, tk2, os⟩) u2 rfl ?_)
  refine wpAny_bind (updateSeq_IsTupOf2 (s := ⟨p2, g, d, tk2, os⟩) u2 fun g2 t2 s2 => ?_)
  replace t2 : IsTupOf2 g2 TO x1 x2 := t2
  replace s2 : Heap.SameBut TO p2 g2 := s2
  refine wpAny_bind (wpAny_letGo (wpAny_pure (wpAny_pure ?_)))
  refine wpAny_bind (wpAny_seqItems (s := ⟨g2, g, d, tk2, os⟩) t2 rfl ?_)
  refine wpAny_bind (wpAny_newTuple ?_)
  have hsz : g2.objs.size = hp.objs.size := by rw [s2.1, hp2.1, s1.1, hp1.1, s0.1]
  have z2 : IsZipB true g2 z TI TO .ellipsis := s2.extBut _ _ S.TOz.symm (hp2.extBut _ _ S.zi2 (s1.extBut _ _ S.TOz.symm (hp1.extBut _ _ S.zi1 hz0)))
  have k2 : ∀ c o, c ≠ z → c ≠ TO → c ≠ i1 → c ≠ i2 → hp.get? c = some o → g2.get? c = some o := fun c o c1 c2 c3 c4 e =>
    s2.extBut _ _ c2 (hp2.extBut _ _ c4 (s1.extBut _ _ c2 (hp1.extBut _ _ c3 (s0.extBut _ _ c1 e))))
  have m1 : St1 (i + 1) g2 := D1.over (D1.over (D1.over sn1 s1 S.Tf1) hp2 S.sep2_1) s2 S.Tf1
  have m2 : St2 (i + 1) g2 := D2.over sn2 s2 S.Tf2
  have hzlt : z < g2.objs.size := Heap.lt_size z2
  show wpAny _ _ (Builtin.SmallTypes.ownedTupleHandOut (.ref z) (.ref g2.objs.size) >>= _) _ _ _
  refine wpAny_bind ?_
  unfold Builtin.SmallTypes.ownedTupleHandOut
  have z3 : IsZipB true (g2.push { cls := .type "tuple", data := .seq #[x1, x2] }) z TI TO .ellipsis := Heap.get?_push_of_some _ z2
  refine wpAny_bind (wpAny_setField_rec z3 (by simp) fun g4 z4 s4 => ?_)
  replace z4 : IsZipB true g4 z TI TO (rawInt g2.objs.size) := z4
  refine wpAny_setField_rec z4 (by simp) fun g5 z5 s5 => ?_
  replace z5 : IsZipB true g5 z TI TO (rawInt g2.objs.size) := z5
  have up : ∀ c o, c ≠ z → g2.get? c = some o → g5.get? c = some o := fun c o c1 e => s5.extBut _ _ c1 (s4.extBut _ _ c1 (Heap.get?_push_of_some _ e))
  have t5 : IsTupOf2 g5 g2.objs.size x1 x2 := s5.extBut _ _ (Nat.ne_of_gt hzlt) (s4.extBut _ _ (Nat.ne_of_gt hzlt) (Heap.get?_push_size _ rfl))
  have n5 : g5.objs.size = g2.objs.size + 1 := by rw [s5.1, s4.1, Heap.size_push]
  rw [hsz] at z5 t5 n5
  refine wpAny_pure ⟨_, rfl, ?_⟩
  show Q (.ref g2.objs.size) _
  rw [hsz]
  exact hQ x1 x2 g5 tk2 hx1 hx2 z5 (up _ _ S.TOz t2) (D1.frame _ _ _ m1 fun b hb o e => up b o (fun q => S.zf1 (q ▸ hb)) e)
    (D2.frame _ _ _ m2 fun b hb o e => up b o (fun q => S.zf2 (q ▸ hb)) e) t5 n5 fun c o c1 c2 c3 c4 e => up c o c1 (k2 c o c1 c2 c3 c4 e)
theorem next_end {Q : Fin → Shared → Prop} (hh : A.handled = none) (S : ZipSep2 z TI TO i1 i2 fp1 fp2)
    (D1 : Draws prog w A i1 fp1 n1 P1 St1) (D2 : Draws prog w A i2 fp2 n2 P2 St2)
    (hz : IsZipB true s.heap z TI TO .none) (hTI : IsTupOf2 s.heap TI (.ref i1) (.ref i2))
    (st1 : St1 n1 s.heap) (st2 : St2 n2 s.heap)
    (hE : ∀ h' e, (∀ c o, c ≠ z → c ≠ TO → c ≠ i1 → c ≠ i2 → s.heap.get? c = some o → h'.get? c = some o) →
      (∃ o, h'.get? e = some o ∧ o.cls = .type "StopIteration") → E (.ref e) { s with heap := h' }) :
    wpAny (model prog w) A (Builtin.«zip.__next__» ⟨[.ref z], []⟩) Q E s := by
  obtain ⟨hp, g, d, tk0, os⟩ := s
  show wpAny _ _ (field (.ref z) 2 >>= _) _ _ _
  refine wpAny_bind (wpAny_field hz rfl (x := .bool true) rfl ?_)
  show wpAny _ _ (field (.ref z) 3 >>= _) _ _ _
  refine wpAny_bind (wpAny_field hz rfl (x := .ref TI) rfl ?_)
  refine wpAny_bind (wpAny_seqItems hTI rfl ?_)
  show wpAny _ _ (Builtin.SmallTypes.ownedTupleIsFree (.ref z) >>= _) _ _ _
  refine wpAny_bind ?_
  unfold Builtin.SmallTypes.ownedTupleIsFree
  refine wpAny_bind (wpAny_field hz rfl (x := .none) rfl (wpAny_pure ?_))
  simp only [if_true]
  refine wpAny_bind (wpAny_rule ?_)
  refine wpAny_bind (wpAny_field hz rfl (x := .ref TO) rfl ?_)
  refine wpAny_bind (wpAny_setField_rec hz (by simp) fun g0 hz0 s0 => ?_)
  replace hz0 : IsZipB true g0 z TI TO .ellipsis := hz0
  replace s0 : Heap.SameBut z hp g0 := s0
  refine wpAny_bind ?_
  simp only [List.zipIdx_cons, List.zipIdx_nil, List.forIn_cons, List.forIn_nil]
  refine wpAny_bind (wpAny_bind (wpAny_onRaise ?_))
  show wpAny _ _ (Builtin.SmallTypes.nextOrEnd (.ref i1)) _ _ ⟨g0, g, d, tk0, os⟩
  refine draw_done D1 (D1.over st1 s0 S.zf1) fun q1 hq1 => ?_
  replace hq1 : Heap.ExtBut i1 g0 q1 := hq1
  have hzq : IsZipB true q1 z TI TO .ellipsis := hq1 _ _ S.zi1 hz0
  refine wpAny_bind (wpAny_setField_rec (s := ⟨q1, g, d, tk0, os⟩) hzq (by simp) fun q2 hz2 s2 => ?_)
  replace s2 : Heap.SameBut z q1 q2 := s2
  refine wpAny_bind ?_
  show wpAny _ _ (_ >>= _) _ _ _
  refine wpAny_bind ?_
  simp only [List.drop_succ_cons, List.drop_zero, List.zipIdx_cons, List.zipIdx_nil, List.forIn_cons, List.forIn_nil]
  have st2' : St2 n2 q2 := D2.frame _ _ _ st2 fun b hb o e =>
    s2.extBut _ _ (fun q => S.zf2 (q ▸ hb)) (hq1 _ _ (fun q => S.sep1_2 (q ▸ hb)) (s0.extBut _ _ (fun q => S.zf2 (q ▸ hb)) e))
  refine wpAny_bind (wpAny_bind (draw_done (s := ⟨q2, g, d, tk0, os⟩) D2 st2' fun q3 hq3 => ?_))
  replace hq3 : Heap.ExtBut i2 q2 q3 := hq3
  refine wpAny_pure (wpAny_pure (wpAny_bind (wpAny_rule ?_)))
  refine stop_raises hh fun q4 e k4 he => ?_
  exact hE q4 e (fun c o c1 c2 c3 c4 x => k4 _ _ (hq3 _ _ c4 (s2.extBut _ _ c1 (hq1 _ _ c3 (s0.extBut _ _ c1 x))))) he
theorem pyNext_item {Q : Option Value → Shared → Prop} (S : ZipSep2 z TI TO i1 i2 fp1 fp2)
    (D1 : Draws prog w A.in1 i1 fp1 n1 P1 St1) (D2 : Draws prog w A.in1 i2 fp2 n2 P2 St2)
    (hz : IsZipB true s.heap z TI TO .none) (hTI : IsTupOf2 s.heap TI (.ref i1) (.ref i2))
    (hTO : IsTupOf2 s.heap TO a1 a2) (st1 : St1 i s.heap) (st2 : St2 i s.heap) (l1 : i < n1) (l2 : i < n2)
    (hQ : ∀ x1 x2 h' tk, P1 i x1 → P2 i x2 → IsZipB true h' z TI TO (rawInt s.heap.objs.size) →
      IsTupOf2 h' TO x1 x2 → St1 (i + 1) h' → St2 (i + 1) h' → IsTupOf2 h' s.heap.objs.size x1 x2 →
      h'.objs.size = s.heap.objs.size + 1 →
      (∀ c o, c ≠ z → c ≠ TO → c ≠ i1 → c ≠ i2 → s.heap.get? c = some o → h'.get? c = some o) →
      Q (some (.ref s.heap.objs.size)) { s with heap := h', toks := tk }) :
    wpAny (model prog w) A (pyNext (.ref z)) Q E s := by
  have hT : s.TypeIs (.ref z) "zip" := ⟨_, hz, rfl⟩
  unfold pyNext
  refine wpAny_bind (wpAny_attempt (wpAny_callSpecial?_slot (name := Str.ofString "__next__") hT F.slot_zip_next
    (wpAny_call_entry F.slot_zip_next hT F.entry_zip_next ?_ (F.args_zip_next_1 _))))
  exact next_item S D1 D2 hz hTI hTO st1 st2 l1 l2
    fun x1 x2 h' tk p1 p2 b1 b2 b3 b4 b5 b6 b7 => wpAny_pure (hQ x1 x2 h' tk p1 p2 b1 b2 b3 b4 b5 b6 b7)
theorem pyNext_end {Q : Option Value → Shared → Prop} (hh : A.handled = none) (S : ZipSep2 z TI TO i1 i2 fp1 fp2)
    (D1 : Draws prog w A.in1 i1 fp1 n1 P1 St1) (D2 : Draws prog w A.in1 i2 fp2 n2 P2 St2)
    (hz : IsZipB true s.heap z TI TO .none) (hTI : IsTupOf2 s.heap TI (.ref i1) (.ref i2))
    (st1 : St1 n1 s.heap) (st2 : St2 n2 s.heap)
    (hQ : ∀ h', (∀ c o, c ≠ z → c ≠ TO → c ≠ i1 → c ≠ i2 → s.heap.get? c = some o → h'.get? c = some o) →
      Q none { s with heap := h' }) :
    wpAny (model prog w) A (pyNext (.ref z)) Q E s := by
  have hT : s.TypeIs (.ref z) "zip" := ⟨_, hz, rfl⟩
  unfold pyNext
  refine wpAny_bind (wpAny_attempt (wpAny_callSpecial?_slot (name := Str.ofString "__next__") hT F.slot_zip_next
    (wpAny_call_entry F.slot_zip_next hT F.entry_zip_next
      (next_end (show A.in1.handled = none from hh) S D1 D2 hz hTI st1 st2 fun h' e hk he => ?_) (F.args_zip_next_1 _))))
  obtain ⟨o, ho, hc⟩ := he
  refine wpAny_bind (wpAny_isInstance (T := "StopIteration") (b := true) ⟨o, ho, hc⟩ isSubtype_stop ?_)
  exact wpAny_pure (hQ _ hk)
/-- either sort of zip -/
theorem pyNextB_item {b : Bool} {Q : Option Value → Shared → Prop} (S : ZipSep2 z TI TO i1 i2 fp1 fp2)
    (D1 : Draws prog w A.in1 i1 fp1 n1 P1 St1) (D2 : Draws prog w A.in1 i2 fp2 n2 P2 St2)
    (hz : IsZipB b s.heap z TI TO .none) (hTI : IsTupOf2 s.heap TI (.ref i1) (.ref i2))
    (hTO : IsTupOf2 s.heap TO a1 a2) (st1 : St1 i s.heap) (st2 : St2 i s.heap) (l1 : i < n1) (l2 : i < n2)
    (hQ : ∀ x1 x2 h' tk, P1 i x1 → P2 i x2 → IsZipB b h' z TI TO (rawInt s.heap.objs.size) →
      IsTupOf2 h' TO x1 x2 → St1 (i + 1) h' → St2 (i + 1) h' → IsTupOf2 h' s.heap.objs.size x1 x2 →
      h'.objs.size = s.heap.objs.size + 1 →
      (∀ c o, c ≠ z → c ≠ TO → c ≠ i1 → c ≠ i2 → s.heap.get? c = some o → h'.get? c = some o) →
      Q (some (.ref s.heap.objs.size)) { s with heap := h', toks := tk }) :
    wpAny (model prog w) A (pyNext (.ref z)) Q E s := by
  cases b with
  | true => exact pyNext_item S D1 D2 hz hTI hTO st1 st2 l1 l2 hQ
  | false => exact wpAny_pyNext_zipD2_item S D1 D2 hz hTI hTO st1 st2 l1 l2 hQ
theorem pyNextB_end {b : Bool} {Q : Option Value → Shared → Prop} (hh : A.handled = none) (S : ZipSep2 z TI TO i1 i2 fp1 fp2)
    (D1 : Draws prog w A.in1 i1 fp1 n1 P1 St1) (D2 : Draws prog w A.in1 i2 fp2 n2 P2 St2)
    (hz : IsZipB b s.heap z TI TO .none) (hTI : IsTupOf2 s.heap TI (.ref i1) (.ref i2)) (hTO : IsTupOf2 s.heap TO a1 a2)
    (st1 : St1 i s.heap) (st2 : St2 i s.heap) (l1 : i ≤ n1) (l2 : i ≤ n2)
    (he : if b = true then i = n1 ∧ i = n2 else i = n1 ∨ i = n2)
    (hQ : ∀ h' tk, (∀ c o, c ≠ z → c ≠ TO → c ≠ i1 → c ≠ i2 → s.heap.get? c = some o → h'.get? c = some o) →
      Q none { s with heap := h', toks := tk }) :
    wpAny (model prog w) A (pyNext (.ref z)) Q E s := by
  cases b with
  | true =>
    obtain ⟨e1, e2⟩ : i = n1 ∧ i = n2 := he
    subst e1
    subst e2
    exact pyNext_end hh S D1 D2 hz hTI st1 st2 fun h' hk => hQ h' s.toks hk
  | false => exact wpAny_pyNext_zipD2_end S D1 D2 hz hTI hTO st1 st2 l1 l2 he hQ
theorem letGoB {b : Bool} {elts : List Expr} {kk : Nat} {pos : Pos} {T : Addr} {Q : Unit → Shared → Prop}
    (hz : IsZipB b s.heap z TI TO (rawInt T))
    (hQ : ∀ h', IsZipB b h' z TI TO .none → Heap.SameBut z s.heap h' → Q () { s with heap := h' }) :
    wpAny (model prog w) A (letOwnedTupleGo (.Tuple elts kk pos) (.ref z) (.ref T)) Q E s := by
  unfold letOwnedTupleGo
  refine wpAny_bind (wpAny_load hz ?_)
  show wpAny _ _ (if (["enumerate", "zip", "dict_itemiterator", "dict_reverseitemiterator", "odict_iterator", "itertools.zip_longest", "itertools.pairwise"].contains "zip" &&
      (#[rawInt T, .bool false, .bool b, .ref TI, .ref TO] : Array Value)[0]? == some (rawInt T)) = true then _ else _) Q E s
  rw [if_pos (by simp)]
  refine wpAny_bind (wpAny_rule ?_)
  show wpAny _ _ (setField (.ref z) 0 .none) Q E s
  exact wpAny_setField_rec hz (by simp) fun h' hz' hs' => hQ h' hz' hs'
theorem pyIterB {b : Bool} {f0 : Value} {Q : Value → Shared → Prop} (hz : IsZipB b s.heap z TI TO f0) (h : Q (.ref z) s) :
    wpAny (model prog w) A (pyIter (.ref z)) Q E s := by
  have hT : s.TypeIs (.ref z) "zip" := ⟨_, hz, rfl⟩
  refine wpAny_pyIter_slot hT F.slot_zip_iter (wpAny_call_entry F.slot_zip_iter hT F.entry_zip_iter ?_ (F.args_zip_iter_1 _))
  show wpAny _ _ (ret (.ref z)) _ _ s
  exact wpAny_pure ⟨_, rfl, "zip", _, hT, F.slot_zip_next.lookup, h⟩
end
end Zs
set_option Elab.async false
set_option linter.all false
set_option maxRecDepth 100000
set_option maxHeartbeats 2000000
namespace Zs
open PySem
theorem typeCall_strict (a b c : Value) : checkTypeCall "zip" ⟨[a, b], [(Str.ofString "strict", c)]⟩ = pure () := by kernel_rfl
theorem newCall_strict (a b c : Value) :
    checkBuiltinCall "zip.__new__" ⟨[.type "zip", a, b], [(Str.ofString "strict", c)]⟩ = pure () := by kernel_rfl
theorem init_strict (obj a b c : Value) : argsOk "object.__init__" ⟨[obj, a, b], [(Str.ofString "strict", c)]⟩ := by
  unfold argsOk
  kernel_rfl
/-- the heap behind zip(v1, v2, strict = True) -/
abbrev sZ (h : Heap) (o1 o2 : Obj) : Heap := (gzO2 h o1 o2).push { cls := .type "zip", data := .fields #[.none, .bool false, .bool true, .ref ((h.push o1).push o2).objs.size, .ref (gzT2 h o1 o2).objs.size] }
theorem meets_strict {v1 v2 : Value} {o1 o2 : Obj} {H1 H2 : Heap → Prop} (B1 : Begins v1 o1 H1) (B2 : Begins v2 o2 H2) :
    Meets (Builtin.«zip.__new__» ⟨[.type "zip", v1, v2], [(Str.ofString "strict", .bool true)]⟩) (fun _ R s => (H1 s.heap ∧ H2 s.heap) ∧
      R (.ok (.ret (.ref (gzO2 s.heap o1 o2).objs.size))) { s with heap := sZ s.heap o1 o2 }) :=
  .of_wp fun prog w A R s h => by
    obtain ⟨hp, g, d, tk, os⟩ := s
    obtain ⟨⟨h1, h2⟩, h⟩ := h
    have hsub := sub_zip
    have q1 : ∀ {A' : Around} {E : Value → Shared → Prop} {Q : Value → Shared → Prop}, Q (.ref hp.objs.size) ⟨(hp.push o1), g, d, tk, os⟩ →
        wpAny (model prog w) A' (pyIter v1) Q E ⟨hp, g, d, tk, os⟩ :=
      fun q => B1.iter prog w _ _ ⟨hp, g, d, tk, os⟩ _ h1 q
    have q2 : ∀ {A' : Around} {E : Value → Shared → Prop} {Q : Value → Shared → Prop}, Q (.ref (hp.push o1).objs.size) ⟨((hp.push o1).push o2), g, d, tk, os⟩ →
        wpAny (model prog w) A' (pyIter v2) Q E ⟨(hp.push o1), g, d, tk, os⟩ :=
      fun q => B2.iter prog w _ _ ⟨(hp.push o1), g, d, tk, os⟩ _ (B2.keeps _ _ h2 fun b o' e => (Heap.get?_push_of_some _ e)) q
    have e2 : (Str.ofString "strict" != ("strict" : Str)) = false := by decide +kernel
    wp_walk using q1, q2
    exact ⟨_, rfl, h⟩
section
variable {prog : Program} {w : World} {A : Around} {E : Value → Shared → Prop} {s : Shared}
theorem strict_begins {v1 v2 : Value} {o1 o2 : Obj} {H1 H2 : Heap → Prop} {Q : Value → Shared → Prop}
    (B1 : Begins v1 o1 H1) (B2 : Begins v2 o2 H2) (h1 : H1 s.heap) (h2 : H2 s.heap)
    (h : ∀ h', IsZipB true h' (s.heap.objs.size + 4) (s.heap.objs.size + 2) (s.heap.objs.size + 3) .none →
      IsTupOf2 h' (s.heap.objs.size + 2) (.ref s.heap.objs.size) (.ref (s.heap.objs.size + 1)) →
      IsTupOf2 h' (s.heap.objs.size + 3) .none .none → h'.get? s.heap.objs.size = some o1 →
      h'.get? (s.heap.objs.size + 1) = some o2 → h'.objs.size = s.heap.objs.size + 5 →
      (∀ c o, s.heap.get? c = some o → h'.get? c = some o) → Q (.ref (s.heap.objs.size + 4)) { s with heap := h' }) :
    wpAny (model prog w) A (call (.type "zip") [v1, v2] [(Str.ofString "strict", .bool true)]) Q E s := by
  refine callType_newKw F.called_zip (by decide) (typeCall_strict _ _ _) (newCall_strict _ _ _)
    (fun obj => init_strict obj _ _ _) F.entry_zip_new (meets_strict B1 B2) ⟨⟨h1, h2⟩, ?_⟩
  have z1 : (s.heap.push o1).objs.size = s.heap.objs.size + 1 := by rw [Heap.size_push]
  have z2 : ((s.heap.push o1).push o2).objs.size = s.heap.objs.size + 2 := by rw [Heap.size_push, z1]
  have zT : (gzT2 s.heap o1 o2).objs.size = s.heap.objs.size + 3 := by rw [Heap.size_push, z2]
  have zO : (gzO2 s.heap o1 o2).objs.size = s.heap.objs.size + 4 := by rw [Heap.size_push, zT]
  have zZ : (sZ s.heap o1 o2).objs.size = s.heap.objs.size + 5 := by rw [Heap.size_push, zO]
  have gZ : IsZipB true (sZ s.heap o1 o2) (gzO2 s.heap o1 o2).objs.size ((s.heap.push o1).push o2).objs.size (gzT2 s.heap o1 o2).objs.size .none := Heap.get?_push_size _ rfl
  have gO : IsTupOf2 (sZ s.heap o1 o2) (gzT2 s.heap o1 o2).objs.size .none .none := Heap.get?_push_of_some _ (Heap.get?_push_size _ rfl)
  have gT : IsTupOf2 (sZ s.heap o1 o2) ((s.heap.push o1).push o2).objs.size (.ref s.heap.objs.size) (.ref (s.heap.push o1).objs.size) :=
    Heap.get?_push_of_some _ (Heap.get?_push_of_some _ (Heap.get?_push_size _ rfl))
  have g1 : (sZ s.heap o1 o2).get? s.heap.objs.size = some o1 :=
    Heap.get?_push_of_some _ (Heap.get?_push_of_some _ (Heap.get?_push_of_some _ (Heap.get?_push_of_some _ (Heap.get?_push_size _ B1.free))))
  have g2 : (sZ s.heap o1 o2).get? (s.heap.push o1).objs.size = some o2 :=
    Heap.get?_push_of_some _ (Heap.get?_push_of_some _ (Heap.get?_push_of_some _ (Heap.get?_push_size _ B2.free)))
  rw [zO, zT, z2] at gZ
  rw [zT] at gO
  rw [z2, z1] at gT
  rw [z1] at g2
  show _ ∧ _
  rw [zO]
  exact ⟨⟨_, gZ, rfl⟩, h _ gZ gT gO g1 g2 zZ fun c o e =>
    Heap.get?_push_of_some _ (Heap.get?_push_of_some _ (Heap.get?_push_of_some _ (Heap.get?_push_of_some _ (Heap.get?_push_of_some _ e))))⟩
end
section
variable {M : Model} {A : Around} {E : Value → Shared → Prop} {s : Shared} {env : Env}
theorem callWith_tyKw {pos : Pos} {T : String} {e : Expr} {rest : List Expr} {kws : List Keyword} {Q : Value → Shared → Prop}
    (h : wpAny M A (spliced (backTo pos (starEach (e :: rest) env))) (fun vs s₁ => wpAny M A (evalAll ((backToKw pos (keywordEach kws env)).map (·.2)))
      (fun kvs s₂ => wpAny M A (call (.type T) vs (((backToKw pos (keywordEach kws env)).filterMap (·.1)).zip kvs)) Q E s₂) E s₁) E s)
    (he : backTo pos (starEach (e :: rest) env) = (false, eval e env) :: backTo pos (starEach rest env) := by rfl)
    (hplain : (backTo pos (starEach (e :: rest) env)).any (·.1) = false := by rfl)
    (hall : (backToKw pos (keywordEach kws env)).all (·.1.isSome) = true := by rfl)
    (hkw : (backToKw pos (keywordEach kws env)).any (·.1.isNone) = false := by rfl) :
    wpAny M A (callWith pos (.type T) [] (backTo pos (starEach (e :: rest) env)) (backToKw pos (keywordEach kws env))) Q E s := by
  have h' : wpAny M A (evalArgs (.type T) true (backTo pos (starEach (e :: rest) env)) (backToKw pos (keywordEach kws env)))
      (fun a s₁ => wpAny M A (call (.type T) ([] ++ a.pos) a.kw) Q E s₁) E s := by
    rw [he] at h ⊢
    exact PyProof.Rows.evalArgs_kwB hall h
  unfold callWith
  refine wpAny_bind (wpAny_holding (wpAny_mono h' (fun a s₁ h₁ => wpAny_bind (wpAny_standAt ?_)) fun _ _ x => x))
  simp only [hplain, hkw, Bool.or_false]
  refine wpAny_bind (wpAny_pure ?_)
  exact wpAny_bind (wpAny_mono h₁ (fun r s₂ hr => wpAny_bind (wpAny_holding (wpAny_point (wpAny_pure hr)))) fun _ _ x => x)
end
end Zs
set_option Elab.async false
set_option linter.all false
set_option maxRecDepth 100000
set_option maxHeartbeats 2000000
/-! zip of two things, each a list, a tuple or a text, strict or not, over the hand layer -/
namespace Zs
open PySem PySem.Spec PyProof.Rows L2
inductive Src where
  | lst (a : Addr) | tup (a : Addr) | str (x : Str)
def Src.v : Src → V
  | .lst a => .ref a
  | .tup a => .ref a
  | .str x => .str x
/-- a text's signs, one by one -/
def signsV (x : Str) : List V := x.cps.toList.map fun c => V.str ⟨#[c]⟩
def Src.at (K : PySem.W.Frag) (H : Hp) (k : Src) (xs : List V) : Prop := match k with
  | .lst a => SqL K H a xs
  | .tup a => SqT K H a xs
  | .str x => xs = signsV x
def Src.st (it : Addr) (i : Nat) (h : Heap) (k : Src) : Prop := match k with
  | .lst a => h.IsListIter it a i
  | .tup a => h.IsTupleIter it a i
  | .str x => ∃ t, h.IsStrIter it (strIterType x) x t i
def Src.apart (z : Addr) (k : Src) : Prop := match k with
  | .lst a => a ≠ z
  | .tup a => a ≠ z
  | .str _ => True
def Src.below (n : Nat) (k : Src) : Prop := match k with
  | .lst a => a < n
  | .tup a => a < n
  | .str _ => True
theorem Src.below.apart {k : Src} {n z : Nat} (h : k.below n) (hz : n ≤ z) : k.apart z := by
  cases k with
  | lst a => exact Nat.ne_of_lt (Nat.lt_of_lt_of_le h hz)
  | tup a => exact Nat.ne_of_lt (Nat.lt_of_lt_of_le h hz)
  | str x => trivial
theorem Src.st_obj {k : Src} {it : Addr} {i : Nat} {h : Heap} (st : k.st it i h) : ∃ o, h.get? it = some o ∧ ∀ v, o.data ≠ .cell v := by
  cases k with
  | lst a => obtain ⟨o, e, _, d⟩ := st; exact ⟨o, e, fun v q => by rw [d] at q; cases q⟩
  | tup a => obtain ⟨o, e, _, d⟩ := st; exact ⟨o, e, fun v q => by rw [d] at q; cases q⟩
  | str x => obtain ⟨t, o, e, _, d⟩ := st; exact ⟨o, e, fun v q => by rw [d] at q; cases q⟩
theorem Src.st_keep {k : Src} {it : Addr} {i : Nat} {h h' : Heap} (st : k.st it i h) (kp : ∀ o, h.get? it = some o → h'.get? it = some o) : k.st it i h' := by
  cases k with
  | lst a => obtain ⟨o, e, r⟩ := st; exact ⟨o, kp o e, r⟩
  | tup a => obtain ⟨o, e, r⟩ := st; exact ⟨o, kp o e, r⟩
  | str x => obtain ⟨t, o, e, r⟩ := st; exact ⟨t, o, kp o e, r⟩
section
variable {X : Cx} {pins : List (Addr × Obj)} {σ : L2.St} {H : Hp} {s : Shared}
theorem Src.at_inj (I : Inv X pins σ H s) {k : Src} {xs ys : List V} (h : k.at X.K H xs) (h' : k.at X.K H ys) : xs = ys := by
  cases k with
  | lst a => exact I.list_inj h h'
  | tup a => exact I.tuple_inj h h'
  | str x => exact Eq.trans h (Eq.symm h')
theorem Src.draws {A : Around} (I : Inv X pins σ H s) (hh : A.handled = none) {k : Src} {xs : List V} (hq : k.at X.K H xs) {it : Addr} (ha : k.apart it) {i : Nat} (st : k.st it i s.heap) :
    ∃ (fp : List Addr) (P : Nat → Value → Prop) (St : Nat → Heap → Prop), Draws X.prog X.w A it fp xs.length P St ∧ (∀ j v, P j v → ∃ x, xs[j]? = some x ∧ RelV x v) ∧
      St i s.heap ∧ (∀ j h, St j h → k.st it j h) ∧ it ∈ fp ∧ ∀ b ∈ fp, b = it ∨ ¬ k.apart b := by
  cases k with
  | lst a =>
    obtain ⟨its, rv, p, _⟩ := I.list hq
    have hl : its.toArray.size = xs.length := by rw [List.size_toArray]; exact rv.length.symm
    refine ⟨[it, a], fun j v => its.toArray[j]? = some v, fun j h => h.IsListIter it a j ∧ h.IsList a its.toArray, ?_, fun j v e => ?_, ⟨st, p.isList⟩, fun j h z => z.1, by simp, fun b hb => ?_⟩
    · rw [← hl]
      exact Draws.list hh it a ha its.toArray
    · have e' : its[j]? = some v := by simpa using e
      have hj : j < xs.length := by
        rw [rv.length]
        exact (List.getElem?_eq_some_iff.mp e').1
      obtain ⟨u, hu, ru⟩ := rv.get (List.getElem?_eq_getElem hj)
      rw [e'] at hu
      cases hu
      exact ⟨_, List.getElem?_eq_getElem hj, ru⟩
    · have e : b = it ∨ b = a := by simpa using hb
      rcases e with e | e
      · exact .inl e
      · exact .inr fun q => q e.symm
  | tup a =>
    obtain ⟨its, rv, p, _⟩ := I.tuple hq
    have hl : its.toArray.size = xs.length := by rw [List.size_toArray]; exact rv.length.symm
    refine ⟨[it, a], fun j v => its.toArray[j]? = some v, fun j h => h.IsTupleIter it a j ∧ h.IsTuple a its.toArray, ?_, fun j v e => ?_, ⟨st, p⟩, fun j h z => z.1, by simp, fun b hb => ?_⟩
    · rw [← hl]
      exact Draws.tuple hh it a ha its.toArray
    · have e' : its[j]? = some v := by simpa using e
      have hj : j < xs.length := by
        rw [rv.length]
        exact (List.getElem?_eq_some_iff.mp e').1
      obtain ⟨u, hu, ru⟩ := rv.get (List.getElem?_eq_getElem hj)
      rw [e'] at hu
      cases hu
      exact ⟨_, List.getElem?_eq_getElem hj, ru⟩
    · have e : b = it ∨ b = a := by simpa using hb
      rcases e with e | e
      · exact .inl e
      · exact .inr fun q => q e.symm
  | str x =>
    have hq : xs = signsV x := hq
    obtain ⟨t, st⟩ := st
    have hl : x.cps.size = xs.length := by rw [hq]; unfold signsV; rw [List.length_map, Array.length_toList]
    refine ⟨[it], fun j v => ∃ c u, x.cps[j]? = some c ∧ v = .str ⟨#[c]⟩ u, _, ?_, ?_, st, fun j h z => ⟨t, z⟩, by simp, fun b hb => .inl (by simpa using hb)⟩
    · rw [← hl]
      exact Draws.text hh it x t
    · rintro j v ⟨c, u, hc, rfl⟩
      refine ⟨.str ⟨#[c]⟩, ?_, u, rfl⟩
      rw [hq]
      unfold signsV
      rw [List.getElem?_map, Array.getElem?_toList, hc]
      rfl
theorem Src.begins (I : Inv X pins σ H s) {k : Src} {xs : List V} (hq : k.at X.K H xs) {u : Value} (r : RelV k.v u) :
    ∃ (o : Obj) (HH : Heap → Prop), Begins u o HH ∧ HH s.heap ∧ (∀ h it, h.get? it = some o → k.st it 0 h) ∧ k.below s.heap.objs.size := by
  cases k with
  | lst a =>
    obtain ⟨its, rv, p, _⟩ := I.list hq
    have e : u = .ref a := r
    subst e
    exact ⟨_, _, begins_list a its.toArray, p.isList, fun h it e => ⟨_, e, rfl, rfl⟩, p.lt⟩
  | tup a =>
    obtain ⟨its, rv, p, _⟩ := I.tuple hq
    have e : u = .ref a := r
    subst e
    exact ⟨_, _, begins_tuple a its.toArray, p, fun h it e => ⟨_, e, rfl, rfl⟩, let ⟨_, e, _⟩ := p; Heap.lt_size e⟩
  | str x =>
    obtain ⟨t, rfl⟩ := r
    exact ⟨_, _, begins_text x t, trivial, fun h it e => ⟨t, _, e, rfl, rfl⟩, trivial⟩
end
structure Sep (z TI TO i1 i2 : Addr) (k1 k2 : Src) : Prop where
  TIz : TI ≠ z
  TOz : TO ≠ z
  TITO : TI ≠ TO
  TIi1 : TI ≠ i1
  TIi2 : TI ≠ i2
  zi1 : z ≠ i1
  zi2 : z ≠ i2
  Ti1 : TO ≠ i1
  Ti2 : TO ≠ i2
  i12 : i1 ≠ i2
  a1z : k1.apart z
  a1T : k1.apart TO
  a11 : k1.apart i1
  a12 : k1.apart i2
  a2z : k2.apart z
  a2T : k2.apart TO
  a21 : k2.apart i1
  a22 : k2.apart i2
theorem nne {n a b : Nat} (h : a ≠ b) : n + a ≠ n + b := by omega
theorem nne0 {n b : Nat} (h : b ≠ 0) : n ≠ n + b := by omega
theorem sep_new (n : Nat) {k1 k2 : Src} (b1 : k1.below n) (b2 : k2.below n) : Sep (n + 4) (n + 2) (n + 3) n (n + 1) k1 k2 :=
  ⟨nne (by decide), nne (by decide), nne (by decide), (nne0 (by decide)).symm, nne (by decide), (nne0 (by decide)).symm, nne (by decide), (nne0 (by decide)).symm, nne (by decide), nne0 (by decide),
    b1.apart (Nat.le_add_right _ _), b1.apart (Nat.le_add_right _ _), b1.apart (Nat.le_refl _), b1.apart (Nat.le_add_right _ _),
    b2.apart (Nat.le_add_right _ _), b2.apart (Nat.le_add_right _ _), b2.apart (Nat.le_refl _), b2.apart (Nat.le_add_right _ _)⟩
theorem Sep.zs {z TI TO i1 i2 : Addr} {k1 k2 : Src} {fp1 fp2 : List Addr} (D : Sep z TI TO i1 i2 k1 k2) (m1 : i1 ∈ fp1) (m2 : i2 ∈ fp2)
    (f1 : ∀ b ∈ fp1, b = i1 ∨ ¬ k1.apart b) (f2 : ∀ b ∈ fp2, b = i2 ∨ ¬ k2.apart b) : ZipSep2 z TI TO i1 i2 fp1 fp2 where
  TIz := D.TIz
  TOz := D.TOz
  TITO := D.TITO
  TIi1 := D.TIi1
  mem1 := m1
  zf1 := fun h => (f1 _ h).elim D.zi1 fun q => q D.a1z
  Tf1 := fun h => (f1 _ h).elim D.Ti1 fun q => q D.a1T
  TIi2 := D.TIi2
  mem2 := m2
  zf2 := fun h => (f2 _ h).elim D.zi2 fun q => q D.a2z
  Tf2 := fun h => (f2 _ h).elim D.Ti2 fun q => q D.a2T
  sep1_2 := fun h => (f2 _ h).elim D.i12 fun q => q D.a21
  sep2_1 := fun h => (f1 _ h).elim D.i12.symm fun q => q D.a12
/-- what zip of k1 and k2 yields: new pairs -/
def ItZ (b : Bool) (K : PySem.W.Frag) (k1 k2 : Src) : It :=
  ⟨fun i H => ∃ (xs ys : List V) (x y : V), k1.at K H xs ∧ k2.at K H ys ∧ xs[i]? = some x ∧ ys[i]? = some y,
    fun i H v H' => ∃ T x y, v = .ref T ∧ H T = none ∧ H' = upd H T (.tup [x, y]) ∧ (∀ xs, k1.at K H xs → xs[i]? = some x) ∧ ∀ ys, k2.at K H ys → ys[i]? = some y,
    fun i H => ∃ xs ys : List V, k1.at K H xs ∧ k2.at K H ys ∧ i ≤ xs.length ∧ i ≤ ys.length ∧ if b = true then i = xs.length ∧ i = ys.length else i = xs.length ∨ i = ys.length⟩
theorem turn_zipB {b : Bool} {P : Program} {w : World} {K : PySem.W.Frag} {elts : List Expr} {kk : Nat} {tpos : Pos} {k1 k2 : Src} {z TI TO i1 i2 : Addr} (D : Sep z TI TO i1 i2 k1 k2) :
    Turn P w K (.Tuple elts kk tpos) (ItZ b K k1 k2) [z, TI, TO, i1, i2] z
      (fun i h => IsZipB b h z TI TO .none ∧ IsTupOf2 h TI (.ref i1) (.ref i2) ∧ (∃ x y, IsTupOf2 h TO x y) ∧ k1.st i1 i h ∧ k2.st i2 i h) where
  mem := by simp
  obj := fun i h st c hc => by
    obtain ⟨hz, hTI, ⟨x, y, hTO⟩, s1, s2⟩ := st
    have e' : c = z ∨ c = TI ∨ c = TO ∨ c = i1 ∨ c = i2 := by simpa using hc
    rcases e' with q | q | q | q | q
    · rw [q]; exact ⟨_, hz, fun v q => nomatch q⟩
    · rw [q]; exact ⟨_, hTI, fun v q => nomatch q⟩
    · rw [q]; exact ⟨_, hTO, fun v q => nomatch q⟩
    · rw [q]; exact Src.st_obj s1
    · rw [q]; exact Src.st_obj s2
  keep := fun i h h' st k => by
    obtain ⟨hz, hTI, ⟨x, y, hTO⟩, s1, s2⟩ := st
    exact ⟨k z (by simp) _ hz, k TI (by simp) _ hTI, ⟨x, y, k TO (by simp) _ hTO⟩, Src.st_keep s1 (k i1 (by simp)), Src.st_keep s2 (k i2 (by simp))⟩
  item := by
    intro X hP hw hK hc i pins s σ H E I hf st hg
    subst hP hw hK
    obtain ⟨hz, hTI, ⟨x0, y0, hTO⟩, s1, s2⟩ := st
    obtain ⟨xs, ys, x, y, hqx, hqy, hx, hy⟩ := hg
    have hh : X.A.in1.handled = none := I.ok.hd hc
    obtain ⟨fp1, P1, St1, D1, r1, a1, b1, m1, f1⟩ := Src.draws (A := X.A.in1) I hh hqx D.a11 s1
    obtain ⟨fp2, P2, St2, D2, r2, a2, b2, m2, f2⟩ := Src.draws (A := X.A.in1) I hh hqy D.a22 s2
    have hzl : z < s.heap.objs.size := Heap.lt_size hz
    refine pyNextB_item (D.zs m1 m2 f1 f2) D1 D2 hz hTI hTO a1 a2 (List.getElem?_eq_some_iff.mp hx).1 (List.getElem?_eq_some_iff.mp hy).1 fun u u2 h' tk p1 p2 z' TO' h1' h2' hT hsz hk => ?_
    obtain ⟨x', hx', ru⟩ := r1 i u p1
    obtain ⟨y', hy', ru2⟩ := r2 i u2 p2
    rw [hx] at hx'
    cases hx'
    rw [hy] at hy'
    cases hy'
    refine ⟨_, rfl, letGoB (s := { s with heap := h', toks := tk }) z' fun h'' z'' sb => ?_⟩
    have hT2 : h''.get? s.heap.objs.size = some { cls := .type "tuple", data := .seq #[u, u2] } := (sb.2 _ (Nat.ne_of_gt hzl)).trans hT
    have new : ObjOk X.prog X.w (upd H s.heap.objs.size (.tup [x, y])) h'' s.heap.objs.size (.tup [x, y]) :=
      ⟨by show 2 ≤ sizeLine; decide, [u, u2], .cons ru (.cons ru2 .nil), ⟨_, hT2, rfl, _, rfl⟩⟩
    have I1 : Inv X pins σ (upd H s.heap.objs.size (.tup [x, y])) { s with heap := h'', toks := tk } :=
      I.turnedNew (t' := tk) (ch := [z, TI, TO, i1, i2]) (fun c o hb q => (sb.2 c (fun q' => hb (by simp [q']))).trans
        (hk c o (fun q' => hb (by simp [q'])) (fun q' => hb (by simp [q'])) (fun q' => hb (by simp [q'])) (fun q' => hb (by simp [q'])) q)) hf (Nat.le_refl _) new
    refine ⟨.ref s.heap.objs.size, _, I1, rfl, ⟨_, x, y, rfl, I.hok.fresh (Nat.le_refl _), rfl, fun l hl => by rw [Src.at_inj I hl hqx]; exact hx,
      fun l hl => by rw [Src.at_inj I hl hqy]; exact hy⟩, ⟨z'', ?_, ⟨u, u2, ?_⟩, ?_, ?_⟩, fun c hcm => ?_⟩
    · exact (sb.2 _ D.TIz).trans (hk _ _ D.TIz D.TITO D.TIi1 D.TIi2 hTI)
    · exact (sb.2 _ D.TOz).trans TO'
    · exact Src.st_keep (b1 _ _ h1') fun o q => (sb.2 _ D.zi1.symm).trans q
    · exact Src.st_keep (b2 _ _ h2') fun o q => (sb.2 _ D.zi2.symm).trans q
    · have hlt : c < s.heap.objs.size := by
        have e' : c = z ∨ c = TI ∨ c = TO ∨ c = i1 ∨ c = i2 := by simpa using hcm
        rcases e' with q | q | q | q | q
        · rw [q]; exact hzl
        · rw [q]; exact Heap.lt_size hTI
        · rw [q]; exact Heap.lt_size hTO
        · rw [q]; obtain ⟨_, e1, _⟩ := Src.st_obj s1; exact Heap.lt_size e1
        · rw [q]; obtain ⟨_, e2, _⟩ := Src.st_obj s2; exact Heap.lt_size e2
      rw [upd_ne (Nat.ne_of_lt hlt)]
      exact (hf c hcm).1
  done := by
    intro X hP hw hK hc i pins s σ H E I hf st hg
    subst hP hw hK
    obtain ⟨hz, hTI, ⟨x0, y0, hTO⟩, s1, s2⟩ := st
    obtain ⟨xs, ys, hqx, hqy, l1, l2, hend⟩ := hg
    have hh : X.A.in1.handled = none := I.ok.hd hc
    obtain ⟨fp1, P1, St1, D1, r1, a1, b1, m1, f1⟩ := Src.draws (A := X.A.in1) I hh hqx D.a11 s1
    obtain ⟨fp2, P2, St2, D2, r2, a2, b2, m2, f2⟩ := Src.draws (A := X.A.in1) I hh hqy D.a22 s2
    exact pyNextB_end (I.ok.hd hc) (D.zs m1 m2 f1 f2) D1 D2 hz hTI hTO a1 a2 l1 l2 hend fun h' tk hk => ⟨rfl, I.turnedL (t' := tk) (ch := [z, TI, TO, i1, i2]) (fun c o hb q =>
      hk c o (fun q' => hb (by simp [q'])) (fun q' => hb (by simp [q'])) (fun q' => hb (by simp [q'])) (fun q' => hb (by simp [q'])) q) hf⟩
  self := fun A i s Q E st h => pyIterB st.1 h
def iZipB (b : Bool) (K : PySem.W.Frag) (ta : TA) : TI := fun σ H R => ta σ H fun vs H1 =>
  ∃ (k1 k2 : Src) (xs ys : List V), vs = [k1.v, k2.v] ∧ k1.at K H1 xs ∧ k2.at K H1 ys ∧ R (ItZ b K k1 k2) H1
section
variable {X : Cx} {pins : List (Addr × Obj)} {σ : L2.St} {H1 : Hp} {s1 : Shared} {elts : List Expr} {kk : Nat} {tpos : Pos}
theorem fresh5 (I1 : Inv X pins σ H1 s1) : ∀ c, c ∈ [s1.heap.objs.size + 4, s1.heap.objs.size + 2, s1.heap.objs.size + 3, s1.heap.objs.size, s1.heap.objs.size + 1] → FpOk X pins H1 c := fun c hcm => by
  have e' : c = s1.heap.objs.size + 4 ∨ c = s1.heap.objs.size + 2 ∨ c = s1.heap.objs.size + 3 ∨ c = s1.heap.objs.size ∨ c = s1.heap.objs.size + 1 := by simpa using hcm
  have hle : s1.heap.objs.size ≤ c := by
    rcases e' with z | z | z | z | z
    · rw [z]; exact Nat.le_add_right _ _
    · rw [z]; exact Nat.le_add_right _ _
    · rw [z]; exact Nat.le_add_right _ _
    · rw [z]; exact Nat.le_refl _
    · rw [z]; exact Nat.le_add_right _ _
  exact I1.fpOk hle (I1.hok.fresh hle)
theorem zipB_made {b : Bool} {R : It → Hp → Prop} {k1 k2 : Src} {o1 o2 : Obj} {h' : Heap} (I1 : Inv X pins σ H1 s1) (l1 : k1.below s1.heap.objs.size) (l2 : k2.below s1.heap.objs.size)
    (t1 : ∀ h it, h.get? it = some o1 → k1.st it 0 h) (t2 : ∀ h it, h.get? it = some o2 → k2.st it 0 h)
    (hz : IsZipB b h' (s1.heap.objs.size + 4) (s1.heap.objs.size + 2) (s1.heap.objs.size + 3) .none) (hTI : IsTupOf2 h' (s1.heap.objs.size + 2) (.ref s1.heap.objs.size) (.ref (s1.heap.objs.size + 1)))
    (hTO : IsTupOf2 h' (s1.heap.objs.size + 3) .none .none) (g1 : h'.get? s1.heap.objs.size = some o1) (g2 : h'.get? (s1.heap.objs.size + 1) = some o2)
    (hk : ∀ c o, s1.heap.get? c = some o → h'.get? c = some o) (q : R (ItZ b X.K k1 k2) H1) {E : Value → Shared → Prop} :
    wpAny (model X.prog X.w) X.A (pyIter (.ref (s1.heap.objs.size + 4))) (PIE X pins σ (.Tuple elts kk tpos) R) E { s1 with heap := h' } := by
  refine pyIterB hz ?_
  have I2 : Inv X pins σ H1 { s1 with heap := h' } := I1.kept (t' := s1.toks) hk
  exact ⟨s1.heap.objs.size + 4, [s1.heap.objs.size + 4, s1.heap.objs.size + 2, s1.heap.objs.size + 3, s1.heap.objs.size, s1.heap.objs.size + 1], _, _, H1, rfl, I2,
    turn_zipB (sep_new s1.heap.objs.size l1 l2), ⟨hz, hTI, ⟨_, _, hTO⟩, t1 _ _ g1, t2 _ _ g2⟩, fresh5 I1, q⟩
end
section
variable {X : Cx} {e e2 : Expr} {ta : TA} {p pos tpos kp q : Pos} {elts : List Expr} {kk : Nat}
/-- zip(a, b) -/
theorem pi_zip2 (hg : Gl X "zip") (hm : X.mg "zip" = none) (ha : PA X [e, e2] ta)
    (hs : starEach [e, e2] X.env = (false, eval e X.env) :: starEach [e2] X.env := by rfl) (hpl : (backTo pos (starEach [e2] X.env)).any (·.1) = false := by rfl) :
    PI X (.Tuple elts kk tpos) (.Call (.Name "zip" p) [e, e2] [] pos) (iZipB false X.K ta) := by
  refine ⟨fun pins s σ H R I h => ?_⟩
  refine Call_ (ld_blt I hg hm PyProof.Rows.boot_zip (PyProof.Rows.callWith_type1 (thn (ha.run pos pins s σ H _ I h) fun us s1 ⟨vs, H1, I1, r1, q1⟩ => ?_) hs hpl))
  obtain ⟨k1, k2, xs, ys, ex, hqx, hqy, q⟩ := q1
  subst ex
  cases r1 with
  | cons r rr =>
    cases rr with
    | cons r' rr =>
      cases rr
      obtain ⟨o1, HH1, B1, h1, t1, l1⟩ := Src.begins I1 hqx r
      obtain ⟨o2, HH2, B2, h2, t2, l2⟩ := Src.begins I1 hqy r'
      exact zip_begins2 B1 B2 h1 h2 fun h' hz hTI hTO g1 g2 hsz hk => zipB_made I1 l1 l2 t1 t2 hz hTI hTO g1 g2 hk q
/-- zip(a, b, strict=True) -/
theorem pi_zipS {ck : Nat} {nm : Str} (hnm : nm = Str.ofString "strict") (hg : Gl X "zip") (hm : X.mg "zip" = none) (ha : PA X [e, e2] ta)
    (hs : backTo pos (starEach [e, e2] X.env) = (false, eval e X.env) :: backTo pos (starEach [e2] X.env) := by rfl) (hpl : (backTo pos (starEach [e, e2] X.env)).any (·.1) = false := by rfl) :
    PI X (.Tuple elts kk tpos) (.Call (.Name "zip" p) [e, e2] [⟨some nm, .Constant (.bool true) ck q, kp⟩] pos) (iZipB true X.K ta) := by
  subst hnm
  refine ⟨fun pins s σ H R I h => ?_⟩
  refine wpAny_Call_Name_kw (ld_blt I hg hm PyProof.Rows.boot_zip ?_)
  refine callWith_tyKw (thn (ha.run pos pins s σ H _ I h) fun us s1 ⟨vs, H1, I1, r1, q1⟩ => ?_) hs hpl
  obtain ⟨k1, k2, xs, ys, ex, hqx, hqy, q⟩ := q1
  subst ex
  refine PyProof.Rows.kws_cons (thn ((pe_bl (X := X) (b := true)).run pins s1 σ H1 (fun v H' => v = .bl true ∧ H' = H1) I1 ⟨rfl, rfl⟩) fun u s2 ⟨v, H2, I2, rv, e1, e2⟩ => PyProof.Rows.kws_nil ?_)
  subst e1
  subst e2
  have eu : u = .bool true := rv
  subst eu
  cases r1 with
  | cons r rr =>
    cases rr with
    | cons r' rr =>
      cases rr
      obtain ⟨o1, HH1, B1, h1, t1, l1⟩ := Src.begins I2 hqx r
      obtain ⟨o2, HH2, B2, h2, t2, l2⟩ := Src.begins I2 hqy r'
      exact strict_begins B1 B2 h1 h2 fun h' hz hTI hTO g1 g2 hsz hk => zipB_made I2 l1 l2 t1 t2 hz hTI hTO g1 g2 hk q
end
end Zs
set_option Elab.async false
set_option linter.all false
set_option maxRecDepth 100000
set_option maxHeartbeats 2000000
namespace Zs
open PySem PySem.Spec PyProof.Rows L2
theorem same_tup {K : PySem.W.Frag} {H H' : Hp} {a : Addr} {xs : List V} (e : Same H H') (h : SqT K H a xs) : SqT K H' a xs := by
  rcases h with (h | ⟨o, h⟩) | h
  · exact .inl (.inl (e _ _ h))
  · exact .inl (.inr ⟨o, e _ _ h⟩)
  · exact .inr h
theorem Src.same {K : PySem.W.Frag} {H H' : Hp} {k : Src} {xs : List V} (e : Same H H') (h : k.at K H xs) : k.at K H' xs := by
  cases k with
  | lst a => exact e.seq h
  | tup a => exact same_tup e h
  | str x => exact h
/-- a loop over zip of two things of one length -/
theorem for_zipB {b : Bool} {K : PySem.W.Frag} {k1 k2 : Src} {xs ys : List V} {g : TG} {tb : TS} {D : Ends} {σ : L2.St} {H : Hp} (hl : xs.length = ys.length)
    (Pv : Nat → L2.St → Hp → Prop) (h0 : Pv 0 σ H) (hq : ∀ i σ H, Pv i σ H → k1.at K H xs ∧ k2.at K H ys)
    (hs : ∀ (i : Nat) (x y : V) (T : Addr) (σ : L2.St) (H : Hp), xs[i]? = some x → ys[i]? = some y → Pv i σ H → H T = none →
      g (.ref T) σ (upd H T (.tup [x, y])) fun σ2 H2 => tb { D with nx := Pv (i + 1), ct := Pv (i + 1), bk := D.nx } σ2 H2)
    (hd : ∀ σ H, Pv xs.length σ H → D.nx σ H) :
    ∃ W : Nat → Nat → L2.St → Hp → Prop, (∃ m, W 0 m σ H) ∧ ∀ i m σ H, W i m σ H →
      ((ItZ b K k1 k2).stop i H ∧ D.nx σ H) ∨ ((ItZ b K k1 k2).go i H ∧ ∃ N : L2.St → Hp → Prop, (∀ σ' H', N σ' H' → ∃ m', m' < m ∧ W (i + 1) m' σ' H') ∧
        ∀ v H', (ItZ b K k1 k2).yld i H v H' → g v σ H' fun σ2 H2 => tb { D with nx := N, ct := N, bk := D.nx } σ2 H2) := by
  refine ⟨fun i m σ H => m = xs.length - i ∧ i ≤ xs.length ∧ Pv i σ H, ⟨xs.length, rfl, Nat.zero_le _, h0⟩, ?_⟩
  rintro i m σ H ⟨rfl, hi, p⟩
  obtain ⟨qx, qy⟩ := hq i σ H p
  by_cases hlt : i < xs.length
  · have hx : xs[i]? = some xs[i] := List.getElem?_eq_getElem hlt
    have hlt2 : i < ys.length := by omega
    have hy : ys[i]? = some ys[i] := List.getElem?_eq_getElem hlt2
    refine .inr ⟨⟨xs, ys, _, _, qx, qy, hx, hy⟩, Pv (i + 1), fun σ' H' p' => ⟨xs.length - (i + 1), by omega, rfl, hlt, p'⟩, fun v H' y => ?_⟩
    obtain ⟨T, x', y', rfl, hT, rfl, f1, f2⟩ := y
    exact hs i x' y' T σ H (f1 xs qx) (f2 ys qy) p hT
  · have e : i = xs.length := by omega
    subst e
    refine .inl ⟨⟨xs, ys, qx, qy, Nat.le_refl _, by omega, ?_⟩, hd σ H p⟩
    cases b with
    | true => exact ⟨rfl, hl⟩
    | false => exact .inl rfl
end Zs
set_option Elab.async false
set_option linter.all false
set_option maxRecDepth 100000
set_option maxHeartbeats 4000000
/-! the law's feed of digits: a dict of cells, at, left -/
namespace Fd
open PySem PySem.Spec PyProof.Rows L2
def feedK (l : Addr) (a f : Int) : List (Key × V) := [(Sum.inr ("cells" : Str), .ref l), (Sum.inr ("at" : Str), .int a), (Sum.inr ("left" : Str), .int f)]
theorem n1 : ¬ ((Sum.inr ("cells" : Str) : Key) = Sum.inr ("at" : Str)) := fun e => absurd (Sum.inr.inj e) (by decide +kernel)
theorem n2 : ¬ ((Sum.inr ("cells" : Str) : Key) = Sum.inr ("left" : Str)) := fun e => absurd (Sum.inr.inj e) (by decide +kernel)
theorem n3 : ¬ ((Sum.inr ("at" : Str) : Key) = Sum.inr ("left" : Str)) := fun e => absurd (Sum.inr.inj e) (by decide +kernel)
variable {l : Addr} {a f : Int}
theorem get_cells : valV (feedK l a f) (Sum.inr ("cells" : Str)) = some (.ref l) := valV_pos rfl
theorem get_at : valV (feedK l a f) (Sum.inr ("at" : Str)) = some (.int a) := by
  unfold feedK
  rw [valV_neg n1, valV_pos rfl]
theorem get_left : valV (feedK l a f) (Sum.inr ("left" : Str)) = some (.int f) := by
  unfold feedK
  rw [valV_neg n2, valV_neg n3, valV_pos rfl]
theorem put_at (b : Int) : putK (feedK l a f) (Sum.inr ("at" : Str)) (.int b) = feedK l b f := by
  unfold putK
  rw [valV_any, get_at, if_pos (show (some (V.int a)).isSome = true from rfl)]
  unfold feedK
  simp only [List.map_cons, List.map_nil]
  rw [if_neg n1, if_pos trivial, if_neg (fun e => n3 e.symm)]
theorem put_left (b : Int) : putK (feedK l a f) (Sum.inr ("left" : Str)) (.int b) = feedK l a b := by
  unfold putK
  rw [valV_any, get_left, if_pos (show (some (V.int f)).isSome = true from rfl)]
  unfold feedK
  simp only [List.map_cons, List.map_nil]
  rw [if_neg n2, if_neg n3, if_pos trivial]
/-- the feed stands at d, its cells at l; at most n cells were gone through -/
structure FeedAt (H : Hp) (d l : Addr) (cs : List Int) (n : Nat) : Prop where
  dc : ∃ (a : Nat) (f : Int), a ≤ n ∧ H d = some (.dK (feedK l a f))
  ls : H l = some (.lst (cs.map V.int))
  len : cs.length ≤ 63
/-- all but d is as it was -/
def Keep (d : Addr) (H H' : Hp) : Prop := ∀ b o, H b = some o → b ≠ d → H' b = some o
theorem Keep.refl (d : Addr) (H : Hp) : Keep d H H := fun _ _ h _ => h
theorem Keep.trans {d : Addr} {H H1 H2 : Hp} (x : Keep d H H1) (y : Keep d H1 H2) : Keep d H H2 := fun b o h n => y b o (x b o h n) n
theorem Keep.of_same {d : Addr} {H H' : Hp} (x : Same H H') : Keep d H H' := fun b o h _ => x b o h
theorem keep_upd {d : Addr} {H : Hp} {o : HO} : Keep d H (upd H d o) := fun b u h n => by
  rw [upd_ne n]
  exact h
theorem same_new {H : Hp} {p : Addr} {o : HO} (h : H p = none) : Same H (upd H p o) := fun b x e => by
  rw [upd_ne (ne_of_none e h)]
  exact e
theorem keep_new {d : Addr} {H : Hp} {p : Addr} {o : HO} (h : H p = none) : Keep d H (upd H p o) := .of_same (same_new h)
section
variable {H H' : Hp} {d : Addr} {cs : List Int} {n m : Nat} {K : PySem.W.Frag}
theorem FeedAt.mono (F : FeedAt H d l cs n) (h : n ≤ m) : FeedAt H d l cs m := by
  obtain ⟨⟨a, f, ha, e⟩, q, z⟩ := F
  exact ⟨⟨a, f, Nat.le_trans ha h, e⟩, q, z⟩
theorem FeedAt.same (F : FeedAt H d l cs n) (s : Same H H') : FeedAt H' d l cs n := by
  obtain ⟨⟨a, f, ha, e⟩, q, z⟩ := F
  exact ⟨⟨a, f, ha, s _ _ e⟩, s _ _ q, z⟩
theorem FeedAt.seq (F : FeedAt H d l cs n) (k : Keep d H H') {b : Addr} {xs : List V} (h : SqL K H b xs) : SqL K H' b xs := by
  obtain ⟨⟨a, f, ha, e⟩, q, z⟩ := F
  rcases h with (h | ⟨o, h⟩) | h
  · exact .inl (.inl (k _ _ h (ne_of h e (by intro z; cases z))))
  · exact .inl (.inr ⟨o, k _ _ h (ne_of h e (by intro z; cases z))⟩)
  · exact .inr h
theorem FeedAt.lst (F : FeedAt H d l cs n) (k : Keep d H H') {b : Addr} {xs : List V} (h : H b = some (.lst xs)) : H' b = some (.lst xs) := by
  obtain ⟨⟨a, f, ha, e⟩, q, z⟩ := F
  exact k _ _ h (ne_of h e (by intro z; cases z))
theorem FeedAt.ne (F : FeedAt H d l cs n) : l ≠ d := by
  obtain ⟨⟨a, f, ha, e⟩, q, z⟩ := F
  exact ne_of q e (by intro z; cases z)
theorem FeedAt.new (F : FeedAt H d l cs n) {b : Addr} (h : H b = none) : d ≠ b ∧ l ≠ b := by
  obtain ⟨⟨a, f, ha, e⟩, q, z⟩ := F
  exact ⟨ne_of_none e h, ne_of_none q h⟩
end
theorem dg_cells {H : Hp} {d : Addr} (e : H d = some (.dK (feedK l a f))) : DGet H d (.str ("cells" : Str)) (some (.ref l)) := by
  have := DGet.k (k := Sum.inr ("cells" : Str)) e
  rwa [get_cells] at this
theorem dg_at {H : Hp} {d : Addr} (e : H d = some (.dK (feedK l a f))) : DGet H d (.str ("at" : Str)) (some (.int a)) := by
  have := DGet.k (k := Sum.inr ("at" : Str)) e
  rwa [get_at] at this
theorem dg_left {H : Hp} {d : Addr} (e : H d = some (.dK (feedK l a f))) : DGet H d (.str ("left" : Str)) (some (.int f)) := by
  have := DGet.k (k := Sum.inr ("left" : Str)) e
  rwa [get_left] at this
theorem dp_at {H : Hp} {d : Addr} {b : Int} (e : H d = some (.dK (feedK l a f))) : DPut H d (.str ("at" : Str)) (.int b) (upd H d (.dK (feedK l b f))) := by
  have := DPut.k (k := Sum.inr ("at" : Str)) (v := .int b) e (show 3 < sizeLine by decide)
  rwa [put_at] at this
theorem dp_left {H : Hp} {d : Addr} {b : Int} (e : H d = some (.dK (feedK l a f))) : DPut H d (.str ("left" : Str)) (.int b) (upd H d (.dK (feedK l a b))) := by
  have := DPut.k (k := Sum.inr ("left" : Str)) (v := .int b) e (show 3 < sizeLine by decide)
  rwa [put_left] at this
/-- lists of ints as data -/
theorem dp_ints {K : PySem.W.Frag} {H : Hp} : ∀ ns : List Int, DpAll K H (ns.map V.int) (ns.map PyData.int)
  | [] => .nil
  | n :: ns => .cons (.int n) (dp_ints ns)
theorem eqv_nil (ns : List Int) : PyData.eqv (.list (ns.map PyData.int)) (.list []) = ns.isEmpty := by
  cases ns with
  | nil => simp [PyData.eqv, PyData.eqvAll]
  | cons n ns => simp [PyData.eqv, PyData.eqvAll]
/-- spDraw: a digit below m -/
def spDraw : Sp := fun vs H Q _ => ∃ (d l : Addr) (cs : List Int) (n : Nat) (m : Int), vs = [.ref d, .int m] ∧ FeedAt H d l cs n ∧ n ≤ 1000000 ∧ 0 < m ∧ m < 2 ^ 64 ∧
  ∀ (r : Nat) (H' : Hp), (r : Int) < m → FeedAt H' d l cs (n + 1) → Keep d H H' → Q (.int r) H'
/-- spPick: one of the items -/
def spPick (K : PySem.W.Frag) : Sp := fun vs H Q _ => ∃ (d l p : Addr) (cs : List Int) (n : Nat) (xs : List V), vs = [.ref d, .ref p] ∧ FeedAt H d l cs n ∧ n ≤ 1000000 ∧ SqL K H p xs ∧ 0 < xs.length ∧ xs.length < 1000 ∧
  ∀ (x : V) (H' : Hp), x ∈ xs → FeedAt H' d l cs (n + 1) → Keep d H H' → Q x H'
/-- spFeed: a new feed of the script -/
def spFeed (K : PySem.W.Frag) : Sp := fun vs H Q _ => ∃ (p : Addr) (ns : List Int), vs = [.ref p] ∧ SqL K H p (ns.map V.int) ∧ ns.length ≤ 63 ∧
  ∀ (d l : Addr) (cs : List Int) (H' : Hp), H d = none → H l = none → FeedAt H' d l cs 0 → Same H H' → Q (.ref d) H'
theorem iteY {c A B : Prop} [Decidable c] (h : c) (a : A) : if decide c = true then A else B := by
  rw [decide_eq_true h]
  exact iteT a
theorem iteN {c A B : Prop} [Decidable c] (h : ¬ c) (b : B) : if decide c = true then A else B := by
  rw [decide_eq_false h]
  exact iteF b
theorem iteNY {c A B : Prop} [Decidable c] (h : ¬ c) (a : A) : if (!decide c) = true then A else B := by
  rw [decide_eq_false h]
  exact iteT a
/-- the step of a draw as arithmetic -/
theorem digit {x m : Int} (h : 0 < m) : ∃ r : Nat, (r : Int) = x % m ∧ (r : Int) < m := by
  obtain ⟨r, e⟩ := Int.eq_ofNat_of_zero_le (Int.emod_nonneg x (show m ≠ 0 by omega))
  refine ⟨r, e.symm, ?_⟩
  have := Int.emod_lt_of_pos x h
  omega
end Fd
set_option Elab.async false
set_option linter.all false
set_option maxRecDepth 100000
set_option maxHeartbeats 4000000
/-! defs that are called where no repr is under way (guards = some []): repr of lists and tuples -/
namespace Gd
open PySem PySem.Spec PyProof.Rows L2
/-- as FnOk, of callers with no repr under way -/
structure FnOkG (P : Program) (w : World) (K : PySem.W.Frag) (mg : Str → Option Value) (base : Heap) (CX : CXT) (k : Nat) (f : Addr) (fd : FuncData) (ps : List Str) (sp : Sp) : Prop where
  len : ∀ vs H Q E, sp vs H Q E → vs.length = ps.length
  run : ∀ (A : Around) (outer : List Env) (s : Shared) (H : Hp) (args : Args) (us : List Value) (vs : List V) (Q : VK) (E : XK),
    A.guards = some [] → Room k A → Env0 P w K mg base A outer s H → BindsTo s fd args (ps.zip us) → Vals vs us → sp vs H Q E →
    codeAny (model P w) A (.call (.ref f) args) (CR CX outer P w H s Q E) s
section
variable {P : Program} {w : World} {K : PySem.W.Frag} {mg : Str → Option Value} {base : Heap} {CX : CXT} {k : Nat} {f : Addr} {fd : FuncData} {ps : List Str} {sp : Sp}
theorem FnOkG.of (F : FnOk P w K mg base CX k f fd ps sp) : FnOkG P w K mg base CX k f fd ps sp :=
  ⟨F.len, fun A outer s H args us vs Q E _ hr e hb hv hs => F.run A outer s H args us vs Q E hr e hb hv hs⟩
theorem guards_deeper (A : Around) (env : Env) : (A.deeper env).guards = A.guards := rfl
theorem fn_ofG {name qual : Str} {params : Arguments} {body : List Stmt} {scope : Scope} {dV kV doc pm cdv ct oc : Value} {an od : Option Addr} {osl : Array (Option Value)} {N : List Str}
    (lk : K.lookup f = some ⟨oc, od, .func (PySem.W.fnOf name qual params body scope dV kV doc pm an cdv ct), osl⟩) (hcd : PySem.W.codeIn K cdv qual = true) (S : FnScope N ps scope)
    (len : ∀ vs H Q E, sp vs H Q E → vs.length = ps.length)
    (hbody : ∀ (A : Around) (outer : List Env) (s : Shared) (H : Hp) (vs : List V) (Q : VK) (E : XK), A.guards = some [] →
      Room k (A.deeper (envOfC qual scope s.heap.objs.size f cdv)) → sp vs H Q E →
      ∃ t, PSs (cxOf CX P w K mg base N qual scope f cdv A outer s H E) body t ∧ t { nx := fun _ H' => Q .non H', rt := Q } (start N vs) H) :
    FnOkG P w K mg base CX (k + 1) f (PySem.W.fnOf name qual params body scope dV kV doc pm an cdv ct) ps sp := by
  refine ⟨len, fun A outer s H args us vs Q E hgd hr e0 hb r hsp => ?_⟩
  have lenv := len _ _ _ _ hsp
  have inK : K.In s.heap := e0.mod.kin.keeps fun b o e => (e0.bs b o e).1
  have nolim : s.heap.NoLimit := e0.mod.nolimit.keeps fun b o e => (e0.bs b o e).1
  have kinds : ∀ y ∈ ps.zip us, scope.names.lookup y.1 = some .local ∨
      (scope.names.lookup y.1 = some .cell ∧ ((cellsFrom (s.heap.objs.size + 1) scope.names []).lookup y.1).isSome = true) := by
    rintro ⟨n, v⟩ hy
    rcases S.par n (List.of_mem_zip hy).1 with q | q
    · exact .inl q
    · exact .inr ⟨q, PySem.W.cellsFrom_some _ _ _ (.inl q)⟩
  refine codeAny_call_function hr.depth (inK _ _ lk) rfl S.co S.gen rfl (PySem.W.codeRec_of inK hcd) (hb _ _ _ _ ?_)
  refine wpAny_newFunctionEnv_cells S.kind kinds fun env he s1 x => ?_
  subst he
  refine ⟨nolim.keeps x.toInCall.keep, codeAny_func ?_⟩
  obtain ⟨t, ht, hq⟩ := hbody A outer s H vs Q E hgd (hr.deeper _) hsp
  have I : Inv (cxOf CX P w K mg base N qual scope f cdv A outer s H E) [] (start N vs) H s1 := inv_start S hr.hd e0 lenv r x
  refine wpAny_mono (ht.run [] s1 (start N vs) H _ I hq) (fun fl s' hs => ?_) fun e s' hs => hs
  have fin : ∀ {σ' : L2.St} {H' : Hp} {v : V} {u : Value}, Inv (cxOf CX P w K mg base N qual scope f cdv A outer s H E) [] σ' H' s' → RelV v u → Q v H' → CE outer P w H s Q u s' :=
    fun {_ H' v _} J rv q => ⟨v, H', J.os, J.bare, J.base, J.hok, rv, q⟩
  cases fl with
  | ret u => obtain ⟨v, σ', H', J, rv, q⟩ := hs; exact fin J rv q
  | next => obtain ⟨σ', H', J, q⟩ := hs; exact fin (v := V.non) (u := Value.none) J rfl q
  | brk => obtain ⟨_, _, _, q⟩ := hs; exact q.elim
  | cont => obtain ⟨_, _, _, q⟩ := hs; exact q.elim
/-- the rule for such a def, out of which no exception comes -/
theorem okG {x qual : Str} {st : Stmt} {N : List Str} (F : Fun K x qual st f fd) (S : FnScope N ps (defScope st)) (len : ∀ vs H Q E, sp vs H Q E → vs.length = ps.length)
    (hbody : ∀ (cdv : Value) (A : Around) (outer : List Env) (s : Shared) (H : Hp) (vs : List V) (Q : VK) (E : XK), A.guards = some [] →
      Room k (A.deeper (envOfC qual (defScope st) s.heap.objs.size f cdv)) → sp vs H Q E →
      ∃ t, PSs (cxOf CX0 P w K mg base N qual (defScope st) f cdv A outer s H E).nox (defBody st) t ∧ t { nx := fun _ H' => Q .non H', rt := Q } (start N vs) H) :
    FnOkG P w K mg base CX0 (k + 1) f fd ps sp := by
  obtain ⟨oc, od, kV, doc, pm, an, cdv, ct, osl, rfl, lk, hcd⟩ := F.ex
  refine fn_ofG lk hcd S len fun A outer s H vs Q E hgd hr hsp => ?_
  obtain ⟨t, h, q⟩ := hbody cdv A outer s H vs Q E hgd hr hsp
  exact ⟨t, h.nox, q⟩
end
section
variable {X : Cx} {CX : CXT} {k : Nat} {f : Addr} {fd : FuncData} {ps : List Str} {sp : Sp} {dvs : List V} {ds : List Value} {E : XK} {x : Str} {p pos : Pos} {e : Expr} {es : List Expr} {t : TA}
theorem pe_callG (F : FnOkG X.prog X.w X.K X.mg X.base CX k f fd ps sp) (hgd : X.A.guards = some []) (hr : Room k X.A) (hg : Gl X x) (hm : X.mg x = some (.ref f)) (hk : PySem.W.keepIn X.K (.ref f) = true) (hb : Binds X.K fd ps ds)
    (hd : Vals dvs ds) (hx : Passes CX X E) (ha : PA X (e :: es) t) (hdb : (x == ("__debug__" : Str)) = false := by decide)
    (he : starEach (e :: es) X.env = (false, eval e X.env) :: starEach es X.env := by rfl) (hpl : (backTo pos (starEach es X.env)).any (·.1) = false := by rfl) :
    PE X (.Call (.Name x p) (e :: es) [] pos) (tCall sp dvs E t) := by
  refine ⟨fun pins s σ H Q I h => ?_⟩
  refine wpAny_Call_Name_kw (ld_glob I hg hm ?_ hdb)
  refine PySem.W.callWith_K (h₀ := X.base) I.ok.mod.kin hk (thn (ha.run pos pins s σ H _ I h) fun us s1 ⟨vs, H1, I1, r, q⟩ => ⟨I1.kIn, ?_⟩) he hpl
  have r2 : Vals (vs ++ dvs) (us ++ ds) := r.append hd
  have hl : (us ++ ds).length = ps.length := r2.length.symm.trans (F.len _ _ _ _ q)
  refine wpAny_call (codeAny_mono (F.run X.A X.stack s1 H1 ⟨us, []⟩ (us ++ ds) (vs ++ dvs) Q E hgd hr I1.env0 (hb s1 us I1.kIn hl) r2 q) fun r s' hq => ?_)
  cases r with
  | error er => exact hx pins σ H1 s1 er s' I1 hq
  | ok fl =>
    cases fl with
    | ret u => exact I1.after hq
    | next => exact hq.elim
    | brk => exact hq.elim
    | cont => exact hq.elim
/-- repr of data -/
def rRepr (K : PySem.W.Frag) : List V → Hp → VK → Prop := fun xs H Q => ∃ (x : V) (d : PyData), xs = [x] ∧ Dp K H x d ∧ d.showable = true ∧ d.hasDict = false ∧ d.depth ≤ 60 ∧ d.shown.length ≤ sizeLine ∧ Q (.str d.shown) H
theorem call_reprD (hgd : X.A.guards = some []) (hu : X.A.units + 64 < cLine) : CallR X (.builtin "repr") (rRepr X.K) := by
  intro pins s σ H xs us Q I r h
  obtain ⟨x, d, rfl, hd, hs, hnd, hdp, hz, q⟩ := h
  obtain ⟨u, rfl, rx⟩ := vals1 r
  obtain ⟨as, rd⟩ := Dp.reads I d x u hd rx
  have tok : ∀ tk, EP X pins σ Q (.str d.shown tk) { s with toks := s.toks + 1 } := fun tk => ⟨.str d.shown, H, I.tok _, ⟨tk, rfl⟩, q⟩
  cases hd with
  | non => cases rx; exact PySem.P.repr_of_none (tok _)
  | bl b => cases rx; exact PySem.P.repr_of_bool (tok _)
  | int i =>
    obtain ⟨t, rfl⟩ := rx
    exact PySem.P.repr_of_int (of_decide_eq_true hs) (tok _)
  | str z =>
    obtain ⟨t, rfl⟩ := rx
    exact PySem.P.repr_of_str (tok _) hz
  | lst _ _ =>
    cases rx
    exact repr_of_reads' rd hs (PyData.noDict_hsm hnd) hgd (by omega) (fun _ _ e => e) (fun h' u tk hk => ⟨.str _, H, I.kept (t' := tk) hk, ⟨_, rfl⟩, q⟩) hz
  | tup _ _ =>
    cases rx
    exact repr_of_reads' rd hs (PyData.noDict_hsm hnd) hgd (by omega) (fun _ _ e => e) (fun h' u tk hk => ⟨.str _, H, I.kept (t' := tk) hk, ⟨_, rfl⟩, q⟩) hz
end
end Gd
set_option Elab.async false
set_option linter.all false
set_option maxRecDepth 100000
set_option maxHeartbeats 4000000
/-! the law's end for a law that keeps its promise where no repr is under way -/
namespace Gd
open PySem PySem.Spec PyProof.Rows L2
section
variable {P : Program} {w : World} {K : PySem.W.Frag} {mg mb : Str → Option Value} {CX : CXT} {k : Nat} {fa a : Addr} {fd : FuncData} {x : Str} {sp : Sp} {s₁ : Shared} {vs : List Value} {ns : List Int}
abbrev LawEnd (s₁ : Shared) (r : Result) (s' : Shared) : Prop := r = .ok (.ret (.bool true)) ∧ OldK s₁.heap s'.heap ∧ s'.os = s₁.os ∧ AllBare s'.gens
/-- from an abstract heap that tracks at most the script -/
theorem law_core (KX : K.In s₁.heap) (hns : s₁.heap.Ns mainGlobals mg) (hb : s₁.heap.Ns builtinsNs mb) (hbb : ∀ x : Str, x ≠ "__name__" → mb x = bootBuiltins x) (hlim : s₁.heap.NoLimit) (hg : s₁.gens = #[])
    (ha : s₁.heap.get? a = some { cls := .type "list", data := .seq vs.toArray }) (hr : Room k callerA)
    (F : ∀ base : Heap, K.In base → base.Ns mainGlobals mg → FnOkG P w K mg base CX k fa fd [x] sp) (hbind : ∀ (s : Shared) (u : Value), BindsTo s fd ⟨[u], []⟩ [(x, u)])
    (hCX : ∀ H e s', CX [] H s₁ (fun _ _ _ => False) e s' → False) (H : Hp) (hO : Only H) (hsp : sp [.ref a] H (fun v _ => v = .bl true) fun _ _ _ => False)
    (hok : HOk P w H s₁.heap) (only : ∀ b, H b ≠ none → b = a) (notK : H a ≠ none → K.lookup a = none) :
    codeAny (model P w) callerA (.call (.ref fa) ⟨[.ref a], []⟩) (LawEnd s₁) s₁ := by
  have free_dict : ∀ {b : Addr} {o : Obj} {es : Array DictEntry} {ep : Nat}, s₁.heap.get? b = some o → o.data = .dict es ep → H b = none := by
    intro b o es ep e d
    cases q : H b with
    | none => rfl
    | some u =>
      obtain rfl : b = a := only b (by rw [q]; simp)
      rw [ha] at e
      cases e
      have d' : Data.seq vs.toArray _ = Data.dict es ep := d
      cases d'
  have keepNs : ∀ {b : Addr} {m : Str → Option Value}, s₁.heap.Ns b m → (hidT s₁.heap H).Ns b m := by
    rintro b m ⟨o, es, ep, e, d, r⟩
    exact ⟨o, es, ep, hidT_get e (free_dict e d), d, r⟩
  have inB : K.In (hidT s₁.heap H) := by
    intro b o e
    refine hidT_get (KX b o e) ?_
    cases q : H b with
    | none => rfl
    | some u =>
      obtain rfl : b = a := only b (by rw [q]; simp)
      rw [notK (by rw [q]; simp)] at e
      cases e
  have md : Mod K mg (hidT s₁.heap H) := by
    obtain ⟨mc, h1, h2⟩ := hlim
    exact ⟨inB, keepNs hns, ⟨mb, keepNs hb, hbb⟩, mc, keepNs h1, h2⟩
  have e0 : Env0 P w K mg (hidT s₁.heap H) callerA [] s₁ H :=
    ⟨rfl, md, fun b o e => of_hidT e, Nat.le_of_eq (hidT_size _ _), trivial, fun b hb => absurd (show b ∈ ([] : List Addr) from hb) (by simp), hok, .of_eq hg⟩
  refine codeAny_mono ((F _ inB (keepNs hns)).run callerA [] s₁ H ⟨[.ref a], []⟩ [.ref a] [.ref a] _ _ rfl hr e0 (hbind s₁ (.ref a)) (.cons rfl .nil) hsp) fun r s' h => ?_
  cases r with
  | error e => exact (hCX H e s' h).elim
  | ok fl =>
    cases fl with
    | next => exact h.elim
    | brk => exact h.elim
    | cont => exact h.elim
    | ret u =>
      obtain ⟨v, H', os, bare, un, hok', r', q⟩ := h
      have q' : v = .bl true := q
      subst q'
      have eu : u = Value.bool true := r'
      subst eu
      refine ⟨rfl, OldK.of_keep fun b o e => ?_, os, bare⟩
      cases q : H b with
      | none => exact un.keep b o e q (fun z => absurd (show b ∈ ([] : List Addr) from z) (by simp)) (by simp)
      | some u =>
        rcases hO b with z | ⟨ob, xs, z⟩
        · rw [q] at z
          cases z
        · obtain ⟨e1, _⟩ := hok b _ z
          obtain ⟨e2, _⟩ := hok' b _ (un.frzs b ob _ z)
          rw [e] at e1
          cases e1
          exact e2
theorem law_callG (KX : K.In s₁.heap) (hns : s₁.heap.Ns mainGlobals mg) (hb : s₁.heap.Ns builtinsNs mb) (hbb : ∀ x : Str, x ≠ "__name__" → mb x = bootBuiltins x) (hlim : s₁.heap.NoLimit) (hg : s₁.gens = #[])
    (ha : s₁.heap.get? a = some { cls := .type "list", data := .seq vs.toArray }) (hi : IntsAre vs ns) (hl : ns.length ≤ sizeLine) (hr : Room k callerA)
    (F : ∀ base : Heap, K.In base → base.Ns mainGlobals mg → FnOkG P w K mg base CX k fa fd [x] sp) (hbind : ∀ (s : Shared) (u : Value), BindsTo s fd ⟨[u], []⟩ [(x, u)])
    (hsp : ∀ H : Hp, Only H → SqL K H a (ns.map V.int) → sp [.ref a] H (fun v _ => v = .bl true) fun _ _ _ => False)
    (hCX : ∀ H e s', CX [] H s₁ (fun _ _ _ => False) e s' → False) :
    codeAny (model P w) callerA (.call (.ref fa) ⟨[.ref a], []⟩) (LawEnd s₁) s₁ := by
  have rv := vals_ints hi
  have lenV := hi.length
  cases hk : K.lookup a with
  | some o =>
    have e := KX a o hk
    rw [ha] at e
    cases e
    have sq : SqL K (fun _ => none) a (ns.map V.int) := .inr ⟨_, vs.toArray, _, hk, rfl, rfl, rfl, by rw [List.size_toArray, lenV]; exact hl, by simpa using rv⟩
    exact law_core KX hns hb hbb hlim hg ha hr F hbind hCX (fun _ => none) (fun _ => .inl rfl) (hsp _ (fun _ => .inl rfl) sq)
      (fun b u z => by have z' : (none : Option HO) = some u := z; cases z') (fun b z => absurd rfl z) fun z => absurd rfl z
  | none =>
    have hO : Only (fun b => if b = a then some (.frz { cls := .type "list", data := .seq vs.toArray } (.lst (ns.map V.int))) else none) := fun b => by
      by_cases hb : b = a
      · exact .inr ⟨_, _, if_pos hb⟩
      · exact .inl (if_neg hb)
    refine law_core KX hns hb hbb hlim hg ha hr F hbind hCX _ hO (hsp _ hO (.inl (.inr ⟨_, if_pos rfl⟩))) (fun b u z => ?_) (fun b z => ?_) fun _ => hk
    · by_cases hb : b = a
      · have z' := (if_pos hb).symm.trans z
        cases z'
        subst hb
        exact ⟨ha, by rw [List.length_map]; exact hl, vs, _, rv, ha⟩
      · have z' := (if_neg hb).symm.trans z
        cases z'
    · by_cases hb : b = a
      · exact hb
      · exact absurd (if_neg hb) z
end
theorem walk_ofG {l : PySem.W.OpenLaw} {n k : Nat} {q : Program} {loose : List Str} {XP : (Str → Option Value) → Heap → Prop} {YP : World → Heap → Prop} {d : DefRec} {K : Params → PySem.W.Frag} {CX : World → CXT} {sp : World → Sp} {x : Str}
    (hn : l.most = some n) (hn2 : n ≤ sizeLine) (hdf : d.params.defaults = []) (hr : Room k callerA)
    (hY : ∀ (w : World) (h : Heap), YP w h → (K w.params).In h)
    (F : ∀ (w : World) (mg : Str → Option Value) (fa : Addr) (h : Heap), (K w.params).In h → h.Ns mainGlobals mg → mg d.name = some (.ref fa) →
      ∃ fd : FuncData, (∀ (s : Shared) (u : Value), BindsTo s fd ⟨[u], []⟩ [(x, u)]) ∧
        ∀ base : Heap, (K w.params).In base → base.Ns mainGlobals mg → FnOkG l.prog w (K w.params) mg base (CX w) k fa fd [x] (sp w))
    (hsp : ∀ (w : World) (H : Hp) (a : Addr) (ns : List Int), ns.length ≤ n → Only H → SqL (K w.params) H a (ns.map V.int) → sp w [.ref a] H (fun v _ => v = .bl true) fun _ _ _ => False)
    (hCX : ∀ (w : World) (H : Hp) (s : Shared) (e : Value) (s' : Shared), CX w [] H s (fun _ _ _ => False) e s' → False) :
    PySem.W.WalkO q loose XP YP l.row.toRowW d [] (fun f vs => PySem.call f vs) := by
  refine Att.attach_call hn hdf fun w s₀ s₁ mg mb fa o pm cd doc a vs ns G Y ho hd hcd hmg hobj hints hlen hg => ?_
  have KX := hY w _ Y
  obtain ⟨fd, hb, hF⟩ := F w mg fa _ KX G.T.g hmg
  exact law_callG KX G.T.g G.T.b G.T.builtins G.T.nolimit hg hobj hints (Nat.le_trans hlen hn2) hr hF hb (fun H hO hS => hsp w H a ns hlen hO hS) fun H e s' => hCX w H s₁ e s'
end Gd
set_option Elab.async false
set_option linter.all false
set_option maxRecDepth 100000
set_option maxHeartbeats 4000000
/-! own exception classes straight over any plain built-in one: made, their fields stored; isinstance of a caught one -/
namespace PySem
namespace ExB
open PySem.W PySem.Calls PyProof.Rows PySem.HandSPX
/-- what is asked of the built-in base -/
structure BaseF (B newId initId : String) (tail : List Value) : Prop where
  ex : ExcBaseFacts B newId initId tail
  pass : ∀ self, refuseLoop self "__setattr__" tail = pure ()
  obj : tail.contains (.type "object") = true
section
open Builtin Builtin.ObjectAttr
variable {prog : Program} {w : World} {A : Around} {E : Value → Shared → Prop} {R : Result → Shared → Prop} {hp : Heap} {g : Array GenState} {d : Drawn} {t : Nat} {os : OsState} {B newId initId : String} {tail : List Value}
/-- the first field -/
theorem osaN (F : BaseF B newId initId tail) {K : W.Frag} {name : Str} {tk : Tok} {v : Value} {x C : Addr} {fv : Array Value} {cd : ClassData}
    (X : K.In hp) (hx : hp.get? x = some { cls := .ref C, data := .fields fv }) (hcd : W.clsIn K C = some cd) (hm : cd.mro = .ref C :: tail) (hh : cd.hasDict = true) (ha : W.findIn K (.ref C) name = some none)
    (hq : ∀ h' tk' dx, (∀ b o, b ≠ x → hp.get? b = some o → h'.get? b = some o) → hp.objs.size ≤ dx → dx ≠ x → h'.get? x = some { cls := .ref C, dict := some dx, data := .fields fv } →
      h'.Ns1 dx (fun y => if y = name then some v else none) → R (.ok (.ret .none)) ⟨h', g, d, tk', os⟩) :
    codeAny (model prog w) A (.call (.builtin "object.__setattr__") ⟨[.ref x, .str name tk, v], []⟩) R ⟨hp, g, d, t, os⟩ := by
  have I : W.InstAt hp x { cls := .ref C, data := .fields fv } C none := ⟨hx, rfl, rfl, trivial⟩
  have hxs : x ≠ hp.objs.size := Nat.ne_of_lt (Heap.lt_size hx)
  have inMro : W.mroIn K C (.type "object") = some true := by
    unfold W.mroIn
    rw [hcd, Option.bind_some, if_neg (by rw [hm]; exact Bool.false_ne_true), hm, List.contains_cons, F.obj, Bool.or_true]
  have sub : W.Looks (model prog w) hp (isInstance (.ref x) (.type "object")) true := I.type.andThen (W.looks_mroIn X inMro)
  refine codeAny_call_builtin PySem.F.store_object.slot.plain PySem.F.store_object.entry
    (@W.check_slot (model prog w) _ _ ⟨hp, g, d, t, os⟩ "object.__setattr__" "object" "__setattr__" (.ref x) [.str name tk, v] [] _ PySem.F.store_object.kind PySem.F.store_object.split sub (PySem.F.store_object.args (.ref x) (.str name tk) v) ?_)
  have hmr : W.Looks (model prog w) hp (mroOf (.ref C)) cd.mro := (W.looks_clsIn X hcd).andThen .now
  have taker : W.Looks (model prog w) hp (storeTaker? none) none := .now
  have hcls : W.Looks (model prog w) hp (classData C) cd := W.looks_clsIn X hcd
  rw [W.osa_eq, refuse_eq]
  refine wpAny_bind (wpAny_bind (I.type.at (wpAny_bind (hmr.at ?_))))
  rw [hm, refuseLoop_ref, F.pass]
  refine wpAny_pure (wpAny_bind (I.type.at (wpAny_bind ((W.looks_findIn X ha).at (wpAny_bind (taker.at ?_))))))
  show wpAny _ _ (storeInOwnDict (.ref x) (.ref C) (.str name tk) name v false) _ _ _
  obtain ⟨nm, bs, mro, ns, qn, hd, sn, sb, ab, col, del⟩ := cd
  dsimp only at hh
  subst hh
  unfold storeInOwnDict ownDictForStores
  repeat (first | with_reducible refine HandSPX.store_in_new ?_ ?_ | with_reducible refine wpAny_loadPart_at hx ?_ | with_reducible refine hcls.at ?_ | wp_step)
  · exact ⟨_, #[], _, (Heap.get?_update_ne _ _ _ _ hxs.symm).trans (Heap.get?_push_at rfl rfl), rfl, fun e he => absurd he (by simp), fun _ => rfl⟩
  · intro h' tk' hn' hs
    have hx₁ : (hp.push { cls := .type "dict", data := .dict #[] }).get? x = some { cls := .ref C, data := .fields fv } := Heap.get?_push_of_some _ hx
    refine hq h' tk' hp.objs.size (fun b o hb ho => ?_) (Nat.le_refl _) hxs.symm ?_ hn'
    · exact (hs.2 b (Nat.ne_of_lt (Heap.lt_size ho))).trans ((Heap.get?_update_ne _ _ _ _ hb).trans (Heap.get?_push_of_some _ ho))
    · exact (hs.2 x hxs).trans (Heap.get?_update_self _ hx₁ rfl)
/-- a further field -/
theorem osaO (F : BaseF B newId initId tail) {K : W.Frag} {name : Str} {tk : Tok} {v : Value} {x C dx : Addr} {fv : Array Value} {cd : ClassData} {m0 : Str → Option Value} {nl : List Str}
    (X : K.In hp) (hx : hp.get? x = some { cls := .ref C, dict := some dx, data := .fields fv }) (hns : hp.Ns1 dx m0) (hw : Within m0 nl) (hz : nl.length ≤ 1000) (hcd : W.clsIn K C = some cd) (hm : cd.mro = .ref C :: tail) (hh : cd.hasDict = true)
    (ha : W.findIn K (.ref C) name = some none)
    (hq : ∀ h' tk', (∀ b o, b ≠ dx → hp.get? b = some o → h'.get? b = some o) → h'.Ns1 dx (fun y => if y = name then some v else m0 y) → R (.ok (.ret .none)) ⟨h', g, d, tk', os⟩) :
    codeAny (model prog w) A (.call (.builtin "object.__setattr__") ⟨[.ref x, .str name tk, v], []⟩) R ⟨hp, g, d, t, os⟩ := by
  obtain ⟨oD, esD, epD, hoD, hdD, _⟩ := hns.count hw
  have I : W.InstAt hp x { cls := .ref C, dict := some dx, data := .fields fv } C (some oD) := ⟨hx, rfl, rfl, hoD⟩
  have inMro : W.mroIn K C (.type "object") = some true := by
    unfold W.mroIn
    rw [hcd, Option.bind_some, if_neg (by rw [hm]; exact Bool.false_ne_true), hm, List.contains_cons, F.obj, Bool.or_true]
  have sub : W.Looks (model prog w) hp (isInstance (.ref x) (.type "object")) true := I.type.andThen (W.looks_mroIn X inMro)
  refine codeAny_call_builtin PySem.F.store_object.slot.plain PySem.F.store_object.entry
    (@W.check_slot (model prog w) _ _ ⟨hp, g, d, t, os⟩ "object.__setattr__" "object" "__setattr__" (.ref x) [.str name tk, v] [] _ PySem.F.store_object.kind PySem.F.store_object.split sub (PySem.F.store_object.args (.ref x) (.str name tk) v) ?_)
  have hmr : W.Looks (model prog w) hp (mroOf (.ref C)) cd.mro := (W.looks_clsIn X hcd).andThen .now
  have taker : W.Looks (model prog w) hp (storeTaker? none) none := .now
  have hcls : W.Looks (model prog w) hp (classData C) cd := W.looks_clsIn X hcd
  rw [W.osa_eq, refuse_eq]
  refine wpAny_bind (wpAny_bind (I.type.at (wpAny_bind (hmr.at ?_))))
  rw [hm, refuseLoop_ref, F.pass]
  refine wpAny_pure (wpAny_bind (I.type.at (wpAny_bind ((W.looks_findIn X ha).at (wpAny_bind (taker.at ?_))))))
  show wpAny _ _ (storeInOwnDict (.ref x) (.ref C) (.str name tk) name v false) _ _ _
  obtain ⟨nm, bs, mro, ns, qn, hd, sn, sb, ab, col, del⟩ := cd
  dsimp only at hh
  subst hh
  unfold storeInOwnDict ownDictForStores
  repeat (first | with_reducible refine PySem.OEX.store_in_old hns hw hz ?_ | with_reducible refine wpAny_loadPart_at hx ?_ | with_reducible refine hcls.at ?_ | wp_step)
  intro h' tk' hn' hs
  exact hq h' tk' (fun b o hb ho => (hs.2 b hb).trans ho) hn'
end
end ExB
end PySem
set_option Elab.async false
set_option linter.all false
set_option maxRecDepth 100000
set_option maxHeartbeats 4000000
namespace ExH
open PySem PySem.Spec PyProof.Rows L2 PySem.ExB
/-- what the written part says of an own class straight over B -/
structure OexB (newId : String) (tail : List Value) (K : PySem.W.Frag) (C : Addr) : Prop where
  cls : ∃ nm q N bs sn sub ab col dd k0 k1 k2 k3 k5, K.lookup C = some (excClassObj nm q C N bs tail true sn sub ab col dd k0 k1 k2 k3 k5 newId)
  sa : PySem.W.findIn K (.ref C) "__setattr__" = some (some (.builtin "object.__setattr__"))
  exC : PySem.W.subIn K (.ref C) (.type "BaseException") = some true
  tyC : PySem.W.typeIn K (.ref C) = some (.type "type")
  kC : PySem.W.keepIn K (.ref C) = true
section
variable {B newId initId : String} {tail : List Value} {X : Cx} {pins : List (Addr × Obj)} {σ : L2.St} {H : Hp} {s : Shared} {a C dx : Addr} {f : Str} {y : V} {u : Value} {fs : List (Str × V)} {Q : Unit → Shared → Prop} {E : Value → Shared → Prop} {A : Around}
theorem stN (F : BaseF B newId initId tail) (T : OexB newId tail X.K C) (I : Inv X pins σ H s) (e : H a = some (exo a C none)) (hno : PySem.W.findIn X.K (.ref C) f = some none) (ry : RelV y u)
    (h : ∀ dx s', H dx = none → dx ≠ a → Inv X pins σ (upd (upd H dx (exd dx [(f, y)])) a (exo a C (some dx))) s' → Q () s') : wpAny (model X.prog X.w) A (setAttr (.ref a) f u) Q E s := by
  obtain ⟨nm, q, N, bs, sn, sub, ab, col, dd, k0, k1, k2, k3, k5, hC⟩ := T.cls
  have hcl : PySem.W.clsIn X.K C = some { name := nm, bases := bs, mro := .ref C :: tail, ns := N, qualname := q, hasDict := true, slotNames := sn, subclasses := sub, abstract := ab, collection := col, hasDel := false } := by unfold PySem.W.clsIn; rw [hC] <;> rfl
  obtain ⟨t1, ho⟩ := exo_at I.hok e
  obtain ⟨hp, g, d, t, os⟩ := s
  refine PySem.W.set_plain I.kIn (ox := { cls := .ref C, dict := none, data := .fields #[.ref t1, .none, .none, .none, .bool false, .none] }) (od := none) ⟨ho, rfl, rfl, trivial⟩ T.sa ?_
  refine osaN F I.kIn ho hcl rfl rfl hno (fun h' tk' dx k dn dne hx hn => ?_)
  have hnd : H dx = none := I.hok.fresh dn
  have nd : ∀ {b : Addr} {o : Obj}, hp.get? b = some o → b ≠ dx := fun {b o} q => Nat.ne_of_lt (Nat.lt_of_lt_of_le (Heap.lt_size q) dn)
  have na : ∀ {b : Addr}, H b = none → b ≠ a := fun {b} n z => by
    rw [z, e] at n
    cases n
  have Un1 : Un X.fs [] H (upd (upd H dx (exd dx [(f, y)])) a (exo a C (some dx))) hp h' := {
    keep := fun b o q n _ _ => k b o (na n) q
    slot := fun b o q n _ _ => ⟨o.slots, k b o (na n) q⟩
    free := fun b o q n _ => by rw [upd_ne (na n), upd_ne (nd q)]; exact n
    there := fun b o q _ => by
      by_cases hb : b = a
      · exact ⟨_, by rw [hb]; exact hx⟩
      · exact ⟨o, k b o hb q⟩
    tups := fun b xs q => by rw [upd_ne (at_ne e q exo_tup), upd_ne (ne_of_none q hnd)]; exact q
    frzs := fun b o v q => by rw [upd_ne (at_ne e q exo_frz), upd_ne (ne_of_none q hnd)]; exact q
    tbls := fun b ps q => ⟨#[], by rw [upd_ne (at_ne e q exo_tbl), upd_ne (ne_of_none q hnd), q]; simp⟩ }
  refine h dx _ hnd dne (I.un (t' := tk') Un1 fun b o q => ?_)
  by_cases hb : b = a
  · subst hb
    rw [upd_same] at q
    cases q
    exact exo_ok hx
  · rw [upd_ne hb] at q
    by_cases hd : b = dx
    · subst hd
      rw [upd_same] at q
      cases q
      exact exd_ok hn (relO_put (fs := []) ry fun g => True.intro)
    · rw [upd_ne hd] at q
      refine (I.hok b o q).stay (fun c v hc z => k c v ?_ z) (fun c hc => by rw [upd_ne (at_ne e hc exo_own), upd_ne (ne_of_none hc hnd)]; exact hc) (fun c xs hc => by rw [upd_ne (at_ne e hc exo_tup), upd_ne (ne_of_none hc hnd)]; exact hc)
      rcases hc with hc | hc
      · rw [hc]
        exact hb
      · exact at_ne e hc exo_own
theorem stO (F : BaseF B newId initId tail) (T : OexB newId tail X.K C) (I : Inv X pins σ H s) (e : H a = some (exo a C (some dx))) (ed : H dx = some (exd dx fs)) (hl : fs.length ≤ 900) (hno : PySem.W.findIn X.K (.ref C) f = some none) (ry : RelV y u)
    (h : ∀ s', Inv X pins σ (upd H dx (exd dx ((f, y) :: fs))) s' → Q () s') : wpAny (model X.prog X.w) A (setAttr (.ref a) f u) Q E s := by
  obtain ⟨nm, q, N, bs, sn, sub, ab, col, dd, k0, k1, k2, k3, k5, hC⟩ := T.cls
  have hcl : PySem.W.clsIn X.K C = some { name := nm, bases := bs, mro := .ref C :: tail, ns := N, qualname := q, hasDict := true, slotNames := sn, subclasses := sub, abstract := ab, collection := col, hasDel := false } := by unfold PySem.W.clsIn; rw [hC] <;> rfl
  obtain ⟨t1, ho⟩ := exo_at I.hok e
  obtain ⟨mA, hns, rel⟩ := exd_at I.hok ed
  have hw := within_of rel
  obtain ⟨hp, g, d, t, os⟩ := s
  obtain ⟨oD, _, _, hoD, _, _⟩ := hns.count hw
  refine PySem.W.set_plain I.kIn (ox := { cls := .ref C, dict := some dx, data := .fields #[.ref t1, .none, .none, .none, .bool false, .none] }) (od := some oD) ⟨ho, rfl, rfl, hoD⟩ T.sa ?_
  refine osaO F I.kIn ho hns hw (by rw [List.length_map]; omega) hcl rfl rfl hno (fun h' tk' k hn => ?_)
  obtain ⟨oz, _, _, ez, _⟩ := id hn
  exact h _ (I.write (t' := tk') (x := dx) (e := dx) (o := exd dx ((f, y) :: fs)) (by rw [ed]; exact True.intro) (.inl rfl) k ⟨oz, ez⟩ (exd_ok hn (relO_put ry rel)))
theorem initB (F : BaseF B newId initId tail) {us : List Value} {Q : Value → Shared → Prop} (T : OexB newId tail X.K C) (I : Inv X pins σ H s) (e : H a = some (exo a C none)) (hl : us.length ≤ sizeLine) (h : ∀ s', Inv X pins σ H s' → Q .none s') :
    wpAny (model X.prog X.w) A (call (.builtin initId) (.ref a :: us)) Q E s := by
  obtain ⟨nm, q, N, bs, sn, sub, ab, col, dd, k0, k1, k2, k3, k5, hC⟩ := T.cls
  obtain ⟨t1, ho⟩ := exo_at I.hok e
  obtain ⟨hp, g, d, t, os⟩ := s
  refine wpAny_call (PySem.HandSPX.init_base F.ex (fun Y => rfl) (I.kIn _ _ hC) ho hl fun h' t2 k hx => ?_)
  have J := I.write (t' := t) (x := a) (e := a) (o := exo a C none) (by rw [e]; exact True.intro) (.inl rfl) k ⟨_, hx⟩ (exo_ok hx)
  have eu : upd H a (exo a C none) = H := by
    funext b
    by_cases hb : b = a
    · rw [hb, upd_same, e]
    · rw [upd_ne hb]
  rw [eu] at J
  exact h _ J
end
/-- B.__init__(self, ..) -/
def tInB (newId : String) (tail : List Value) (K : PySem.W.Frag) (ta : TA) : TE := fun σ H Q => ta σ H fun vs H1 => ∃ (a C : Addr) (ws : List V), vs = .ref a :: ws ∧ ws.length ≤ 1000 ∧ OexB newId tail K C ∧ H1 a = some (exo a C none) ∧ Q .non H1
/-- self.f = e -/
def tStB (newId : String) (tail : List Value) (K : PySem.W.Frag) (f : Str) (to te : TE) : TS := fun D σ H => te σ H fun y H1 => to σ H1 fun x H2 => ∃ a C : Addr, x = .ref a ∧ OexB newId tail K C ∧ PySem.W.findIn K (.ref C) f = some none ∧
  ((H2 a = some (exo a C none) ∧ ∀ dx, H2 dx = none → dx ≠ a → D.nx σ (upd (upd H2 dx (exd dx [(f, y)])) a (exo a C (some dx)))) ∨
    ∃ (dx : Addr) (fs : List (Str × V)), H2 a = some (exo a C (some dx)) ∧ H2 dx = some (exd dx fs) ∧ fs.length ≤ 900 ∧ D.nx σ (upd H2 dx (exd dx ((f, y) :: fs))))
section
variable {B newId initId : String} {tail : List Value} {X : Cx} {o e : Expr} {es : List Expr} {to te : TE} {ta : TA} {f b : Str} {p p' p1 p2 pos : Pos}
theorem pe_initB (F : BaseF B newId initId tail) {pl : Sem Bool} (hg : Gl X b) (hm : X.mg b = none) (hbt : bootBuiltins b = some (.type B)) (ht : typeOf (.type B) = pure (.type "type"))
    (vV : PySem.W.findCls X.K (.type B) (.type "type") "__init__" = some (.val (.builtin initId))) (hst : Manifest.isStub B = false) (hin : PySem.W.handedIn (.builtin initId) = true) (ha : PA X (e :: es) ta) (hbn : b ≠ "__name__" := by decide) (hbd : (b == ("__debug__" : Str)) = false := by decide)
    (hc : eval (.Call (.Attribute (.Name b p1) "__init__" p2) (e :: es) [] pos) X.env = (do
      let ov ← eval (.Name b p1) X.env
      standAt p2.atName
      let (f, first) ← holding [ov] (getMethod ov "__init__" pl)
      callWith pos f first (backTo pos (starEach (e :: es) X.env)) (backToKw pos (keywordEach [] X.env))) := by rfl)
    (he : starEach (e :: es) X.env = (false, eval e X.env) :: starEach es X.env := by rfl) (hpl : (backTo pos (starEach es X.env)).any (·.1) = false := by rfl) :
    PE X (.Call (.Attribute (.Name b p1) "__init__" p2) (e :: es) [] pos) (tInB newId tail X.K ta) := by
  refine ⟨fun pins s σ H Q I h => ?_⟩
  refine PySem.W.methodCall_KW (ld_blt I hg hm hbt ?_ hbn hbd) hc
  obtain ⟨m, fr⟩ := I.fr
  refine PySem.W.method_type fr I.ok.mod.kin ht hst vV hin ?_
  show wpAny _ _ (callWith pos (Value.builtin initId) [] (backTo pos (starEach (e :: es) X.env)) []) _ _ _
  refine PyProof.Rows.callWith_method1 (thn (ha.run pos pins _ σ H _ (I.tok _) h) fun us s1 ⟨vs, H1, I1, r1, a, C, ws, ev, hl, T, ea, q⟩ => ?_) he hpl
  subst ev
  cases r1 with
  | @cons _ u0 _ ur ra rw' =>
    have eu : u0 = Value.ref a := ra
    subst eu
    have hlen : ur.length ≤ sizeLine := by
      rw [← Paired.length rw', sizeLine_eq]
      omega
    exact initB F T I1 ea hlen fun s' J => ⟨.non, H1, J, rfl, q⟩
theorem ps_stB (F : BaseF B newId initId tail) (ho : PE X o to) (he : PE X e te) (hs : swapsWith e (some (.Attribute o f p')) pos.line X.env = pure false := by rfl) : PS X (.Assign [.Attribute o f p'] e pos) (tStB newId tail X.K f to te) := by
  refine ⟨fun pins s σ H D I h => ?_⟩
  refine plainObj_wpAny_Assign_Attribute (thn (he.run pins s σ H _ I h) fun v s1 ⟨y, H1, I1, r1, q1⟩ => thn (ho.run pins s1 σ H1 _ I1 q1) fun u s2 ⟨x, H2, I2, r2, a, C, ex, T, hno, q⟩ => ?_) hs
  subst ex
  have eu : u = Value.ref a := r2
  subst eu
  rcases q with ⟨ea, q⟩ | ⟨dx, fs, ea, ed, hl, q⟩
  · exact stN F T I2 ea hno r1 fun dx s' n ne J => ⟨σ, _, J, q dx n ne⟩
  · exact stO F T I2 ea ed hl hno r1 fun s' J => ⟨σ, _, J, q⟩
/-- C(e, ..) for a raise -/
theorem pmk_B (F : BaseF B newId initId tail) {CX : CXT} {x : Str} {C fI : Addr} {k : Nat} {fd : FuncData} {ps : List Str} {sp : Sp} {ds : List Value} {dvs : List V} (T : OexB newId tail X.K C)
    (iC : PySem.W.findIn X.K (.ref C) "__init__" = some (some (.ref fI))) (tI : PySem.W.typeIn X.K (.ref fI) = some (.type "function"))
    (F1 : FnOk X.prog X.w X.K X.mg X.base CX k fI fd ps sp) (hr : Room (k + 1) X.A) (hb : Binds X.K fd ps ds) (hd : Vals dvs ds) (hx : Passes CX X (fun _ _ _ => False)) (hg : Gl X x) (hm : X.mg x = some (.ref C)) (ha : PA X (e :: es) ta)
    (hdb : (x == ("__debug__" : Str)) = false := by decide) (he : starEach (e :: es) X.env = (false, eval e X.env) :: starEach es X.env := by rfl) (hpl : (backTo pos (starEach es X.env)).any (·.1) = false := by rfl) :
    PMk X (.Call (.Name x p) (e :: es) [] pos) (tMkO C sp dvs ta) := by
  intro pins s σ H Q I h
  obtain ⟨nm, q, N, bs, sn, sub, ab, col, dd, k0, k1, k2, k3, k5, hC⟩ := T.cls
  refine wpAny_Call_Name_kw (ld_glob I hg hm ?_ hdb)
  refine PySem.W.callWith_K (h₀ := X.base) I.ok.mod.kin T.kC (thn (ha.run pos pins s σ H _ I h) fun us s1 ⟨vs, H1, I1, r1, hz, q1⟩ => ⟨I1.kIn, ?_⟩) he hpl
  show wpAny _ _ (call (.ref C) us) _ _ _
  obtain ⟨hp, g, dr, tk, os⟩ := s1
  have hsz : hp.objs.size ≤ hp.objs.size + 1 := Nat.le_succ _
  have hn : H1 (hp.objs.size + 1) = none := I1.hok.fresh hsz
  have hq := q1 (hp.objs.size + 1) hn
  have kk : ∀ b o, hp.get? b = some o → ((hp.push (PySem.W.kdv_tup us)).push (PySem.HandSPX.excO C hp.objs.size)).get? b = some o := fun b o e => Heap.get?_push_of_some _ (Heap.get?_push_of_some _ e)
  have hget : ((hp.push (PySem.W.kdv_tup us)).push (PySem.HandSPX.excO C hp.objs.size)).get? (hp.objs.size + 1) = some (PySem.HandSPX.excO C hp.objs.size) := by heap_get
  have I2 : Inv X pins σ (upd H1 (hp.objs.size + 1) (exo (hp.objs.size + 1) C none)) ⟨(hp.push (PySem.W.kdv_tup us)).push (PySem.HandSPX.excO C hp.objs.size), g, dr, tk, os⟩ :=
    I1.laid (t' := tk) (a := hp.objs.size + 1) (o := exo (hp.objs.size + 1) C none) (h' := (hp.push (PySem.W.kdv_tup us)).push (PySem.HandSPX.excO C hp.objs.size)) kk hsz (exo_ok hget)
  have r2 : Vals (V.ref (hp.objs.size + 1) :: (vs ++ dvs)) (Value.ref (hp.objs.size + 1) :: (us ++ ds)) := .cons rfl (r1.append hd)
  have hl : (Value.ref (hp.objs.size + 1) :: us ++ ds).length = ps.length := by
    have e := r2.length
    rw [F1.len _ _ _ _ hq] at e
    exact e.symm
  have hus : us.length ≤ sizeLine := by
    rw [← Paired.length r1, sizeLine_eq]
    omega
  refine wpAny_call (PySem.HandSPX.call_own F.ex (fun Y => rfl) (I1.kIn _ _ hC) (PySem.W.looks_findIn I1.kIn iC) (fun self => PySem.W.bind_fn I1.kIn self tI) hus
    (codeAny_mono (F1.run _ X.stack _ _ ⟨Value.ref (hp.objs.size + 1) :: us, []⟩ (Value.ref (hp.objs.size + 1) :: (us ++ ds)) _ _ (fun _ _ _ => False) (hr.make C us []) (I2.env0.make C us [])
      (hb _ (Value.ref (hp.objs.size + 1) :: us) I2.kIn hl) r2 hq) fun r s' hq' => ?_))
  cases r with
  | error er => exact hx pins σ _ _ er s' I2 hq'
  | ok fl =>
    cases fl with
    | ret u =>
      obtain ⟨v, H2, os2, bare2, un2, hok2, rv, ev, d, fs, ea, ed, hd1, q2⟩ := hq'
      subst ev
      obtain ⟨h2, g2, d2, t2, os'⟩ := s'
      exact ⟨rv, mk_end (raises_own T.exC T.tyC) I1 hsz kk un2 hok2 os2 bare2 ea ed hd1 q2⟩
    | next => exact hq'.elim
    | brk => exact hq'.elim
    | cont => exact hq'.elim
end
/-! ### isinstance of a caught one -/
structure IsC (K : PySem.W.Frag) (D : Addr) : Prop where
  hc : (PySem.W.clsIn K D).isSome = true
  hg : PySem.W.findIn K (.ref D) "__getattribute__" = some (some (.builtin "BaseException.__getattribute__"))
  hk : PySem.W.findIn K (.ref D) "__getattr__" = some none
  hs : PySem.W.subIn K (.ref D) (.type "BaseException") = some true
  ha : PySem.W.findIn K (.ref D) "__class__" = some (some (.builtin "object.__class__"))
  hn : PySem.W.specialIn K (.builtin "object.__class__") "__get__" = some (some (.builtin "getset_descriptor.__get__"))
  ht : PySem.W.takesIn K (.builtin "object.__class__") = some true
  hm : PySem.W.mroIn K D (.type "object") = some true
/-- isinstance(e, c), e the exception that the suite holds, with its dict -/
theorem call_isEd {X : Cx} {a D dd : Addr} {oe : Obj} {pn : List (Addr × Obj)} {fs : List (Str × V)} (C : IsC X.K D) (hz : Zc (.ref D) (some dd) oe) (hf : ∃ vs, oe.data = .fields vs) :
    CallR (X.suite a ((a, oe) :: pn)) (.builtin "isinstance") (fun xs H Q => ∃ (c : V) (cv : Value) (b : Bool) (fs : List (Str × V)), xs = [.ref a, c] ∧ H dd = some (.xd fs) ∧ (∀ u, RelV c u → u = cv) ∧ PySem.W.kitOne X.K (.ref D) cv = some b ∧ Q (.bl b) H) := by
  intro pins s σ H xs us Q I r h
  obtain ⟨c, cv, b, fs, rfl, hd, hcv, e, q⟩ := h
  cases r with
  | cons rx rr =>
    cases rr with
    | cons rt rr =>
      cases rr
      cases rx
      have ec := hcv _ rt
      subst ec
      obtain ⟨hget, _⟩ := I.pin (a, oe) (List.mem_append.mpr (.inl List.mem_cons_self))
      obtain ⟨vs, hv⟩ := hf
      have hx : ObjOk X.prog X.w H s.heap dd (.xd fs) := I.hok dd _ hd
      obtain ⟨mA, hns, hr⟩ := hx
      obtain ⟨od, ho, hl⟩ := lookIn_ns hns
      have J : PySem.W.InstAt s.heap a oe D (some od) := ⟨hget, hz.1, by unfold PySem.W.notCls; rw [hv] <;> rfl, by rw [hz.2]; exact ho⟩
      exact PySem.W.kia_one (PySem.W.kitx_exc C.hc C.hg C.hk C.hs C.ha C.hn C.ht C.hm) I.kIn J e (fun z => nomatch z) fun tk => ⟨.bl b, H, I.kept (t' := tk) fun _ _ z => z, rfl, q⟩
/-! ### the bases -/
abbrev tailVE : List Value := [.type "ValueError", .type "Exception", .type "BaseException", .type "object"]
abbrev tailLE : List Value := [.type "LookupError", .type "Exception", .type "BaseException", .type "object"]
abbrev tailIE : List Value := [.type "IndexError", .type "LookupError", .type "Exception", .type "BaseException", .type "object"]
abbrev tailAE : List Value := [.type "ArithmeticError", .type "Exception", .type "BaseException", .type "object"]
theorem base_VE : BaseF "ValueError" "ValueError.__new__" "ValueError.__init__" tailVE := ⟨F.excBase_ValueError, F.store_ValueError.passes, by decide +kernel⟩
theorem base_LE : BaseF "LookupError" "LookupError.__new__" "LookupError.__init__" tailLE := ⟨F.excBase_LookupError, F.store_LookupError.passes, by decide +kernel⟩
theorem base_IE : BaseF "IndexError" "IndexError.__new__" "IndexError.__init__" tailIE := ⟨F.excBase_IndexError, F.store_IndexError.passes, by decide +kernel⟩
theorem base_AE : BaseF "ArithmeticError" "ArithmeticError.__new__" "ArithmeticError.__init__" tailAE := ⟨F.excBase_ArithmeticError, F.store_ArithmeticError.passes, by decide +kernel⟩
theorem typ_LE : typeOf (.type "LookupError") = pure (.type "type") := by kernel_rfl
theorem typ_IE : typeOf (.type "IndexError") = pure (.type "type") := by kernel_rfl
theorem typ_AE : typeOf (.type "ArithmeticError") = pure (.type "type") := by kernel_rfl
end ExH
set_option Elab.async false
set_option linter.all false
set_option maxRecDepth 100000
set_option maxHeartbeats 4000000
/-! texts as lists of codes; index of one sign, list(text), text * number, join of single signs -/
namespace Tx
open PySem PySem.Spec PyProof.Rows L2
def tx (cs : List Nat) : Str := ⟨cs.toArray⟩
theorem tx_cps (cs : List Nat) : (tx cs).cps.toList = cs := by simp [tx]
theorem tx_len (cs : List Nat) : (tx cs).length = cs.length := by
  show (tx cs).cps.size = cs.length
  simp [tx]
theorem tx_inj {a b : List Nat} (h : tx a = tx b) : a = b := by
  have := congrArg (fun s : Str => s.cps.toList) h
  simpa [tx] using this
theorem tx_of (x : Str) : x = tx x.cps.toList := by
  cases x
  simp [tx]
/-- one sign -/
abbrev sg (c : Nat) : Str := ⟨#[c]⟩
theorem sg_tx (c : Nat) : sg c = tx [c] := rfl
theorem sg_inj {a b : Nat} (h : sg a = sg b) : a = b := by
  have := tx_inj (a := [a]) (b := [b]) h
  simpa using this
def sV (cs : List Nat) : List V := cs.map fun c => V.str (sg c)
theorem signsV_tx (cs : List Nat) : Zs.signsV (tx cs) = sV cs := by
  unfold Zs.signsV sV
  rw [tx_cps]
theorem tx_app (a b : List Nat) : tx a ++ tx b = tx (a ++ b) := by
  show (⟨a.toArray ++ b.toArray⟩ : Str) = ⟨(a ++ b).toArray⟩
  simp
theorem join_signs : ∀ cs : List Nat, Str.join (tx []) (cs.map sg) = tx cs
  | [] => rfl
  | [c] => rfl
  | c :: d :: r => by
    show sg c ++ tx [] ++ Str.join (tx []) ((d :: r).map sg) = tx (c :: d :: r)
    rw [join_signs (d :: r), sg_tx, tx_app, tx_app]
    rfl
theorem glued_signs (cs : List Nat) : Txt.join (tx []) (cs.map sg) = tx cs := by
  unfold Txt.join
  rw [StrLaws.glued_eq_join, join_signs]
theorem empty_tx : ("" : Str) = tx [] := by decide +kernel
section
variable {X : Cx}
/-- s.index(c), c one sign that is there -/
theorem mt_idx1 : MtR X "str.index" (fun x xs H Q => ∃ (cs : List Nat) (c i : Nat), x = .str (tx cs) ∧ xs = [.str (sg c)] ∧ cs[i]? = some c ∧ (∀ j, j < i → cs[j]? ≠ some c) ∧ Q (.int (i : Nat)) H) := by
  intro pins s σ H x xs v us Q I rx rs h
  obtain ⟨cs, c, i, ex, es, hi, hf, q⟩ := h
  rcases StrLaws.occ_head (tx cs) (sg c) 1 (Nat.le_refl _) with ⟨_, hn⟩ | ⟨k, r, ho, hk, hl⟩
  · exact absurd ((StrLaws.subAt_one (tx cs) c i).mpr (by rw [tx_cps]; exact hi)) (hn i)
  · have e1 : cs[k]? = some c := by
      have := (StrLaws.subAt_one (tx cs) c k).mp hk
      rwa [tx_cps] at this
    have e2 : k = i := by
      rcases Nat.lt_trichotomy k i with h | h | h
      · exact absurd e1 (hf k h)
      · exact h
      · exact absurd ((StrLaws.subAt_one (tx cs) c i).mpr (by rw [tx_cps]; exact hi)) (hl i h)
    subst e2
    exact mt_sindex pins s σ H x xs v us Q I rx rs ⟨tx cs, sg c, k, r, ex, es, ho, q⟩
/-- list(s) -/
theorem call_list_tx (hc : X.calm = true) : CallR X (.type "list") (fun xs H Q => ∃ cs : List Nat, xs = [.str (tx cs)] ∧ cs.length ≤ 1000 ∧ ∀ l, H l = none → Q (.ref l) (upd H l (.lst (sV cs)))) := by
  intro pins s σ H xs us Q I r h
  obtain ⟨cs, rfl, hz, q⟩ := h
  obtain ⟨u, rfl, t, rfl⟩ := vals1 r
  have hsz : (tx cs).cps.size ≤ sizeLine := by
    have : (tx cs).cps.size = cs.length := tx_len cs
    rw [this]
    exact Nat.le_of_lt (small1000 hz)
  refine call_list_str (I.ok.hd hc) (tx cs) t (hn := hsz) fun h' tk acc c hk hS hacc => ?_
  have hlen : acc.toList.length = cs.length := by
    rw [Array.length_toList, hacc.1]
    exact tx_len cs
  have rv : Vals (sV cs) acc.toList := by
    have key : ∀ (cs : List Nat) (l : List Value), l.length = cs.length → (∀ (j : Nat) (v : Value), l[j]? = some v → ∃ c u, cs[j]? = some c ∧ v = .str (sg c) u) → Vals (sV cs) l := by
      intro cs
      induction cs with
      | nil =>
        intro l hl _
        cases l with
        | nil => exact .nil
        | cons a b => cases hl
      | cons c cs ih =>
        intro l hl hv
        cases l with
        | nil => cases hl
        | cons a b =>
          obtain ⟨c', u, e1, e2⟩ := hv 0 a rfl
          have e3 : c = c' := Option.some.inj e1
          subst e3
          refine .cons ⟨u, e2⟩ (ih b (Nat.succ.inj hl) fun j v hj => hv (j + 1) v hj)
    refine key cs acc.toList hlen fun j v hj => ?_
    obtain ⟨c, u, hc', e⟩ := hacc.2 j v (by simpa using hj)
    refine ⟨c, u, ?_, e⟩
    have : (tx cs).cps.toList[j]? = some c := by
      rw [Array.getElem?_toList]
      exact hc'
    rwa [tx_cps] at this
  have new : ObjOk X.prog X.w (upd H s.heap.objs.size (.lst (sV cs))) h' s.heap.objs.size (.lst (sV cs)) := by
    refine ⟨?_, acc.toList, c, rv, by simpa using hS⟩
    unfold sV
    rw [List.length_map]
    exact Nat.le_of_lt (small1000 hz)
  exact ⟨.ref s.heap.objs.size, _, I.laid (t' := tk) hk (Nat.le_refl _) new, rfl, q _ (I.hok.fresh (Nat.le_refl _))⟩
/-- c * n, c one sign -/
theorem op_mul_tx : OpR X (binaryOp .Mult) (fun x y H Q => ∃ (c n : Nat), x = .str (sg c) ∧ y = .int (n : Int) ∧ 1 ≤ n ∧ n ≤ 1000 ∧ Q (.str (tx (List.replicate n c))) H) := by
  intro pins s σ H x y v u Q I rx ry h
  obtain ⟨c, n, rfl, rfl, h1, h2, q⟩ := h
  obtain ⟨t, rfl⟩ := rx
  obtain ⟨t', rfl⟩ := ry
  have hrep : ∀ (n : Nat) (acc : Array Nat), ((List.replicate n (#[c] : Array Nat)).foldl (· ++ ·) acc).toList = acc.toList ++ List.replicate n c := by
    intro n
    induction n with
    | zero => intro acc; simp
    | succ n ih =>
      intro acc
      rw [List.replicate_succ, List.foldl_cons, ih, List.replicate_succ]
      simp
  refine PySem.P.mul_str ?_ (fun _ _ => ?_) (fun _ _ => ?_) ?_
  · rw [decide_eq_false (by omega), decide_eq_false (by omega)]
    rfl
  · show ¬ ((1 : Int) > (2 ^ 63 - 1) / (n : Int))
    have h3 : (1 : Int) ≤ (2 ^ 63 - 1) / (n : Int) := by
      refine (Int.le_ediv_iff_mul_le (by omega)).mpr ?_
      omega
    omega
  · have e : (sg c).length = 1 := rfl
    rw [e, Nat.one_mul]
    unfold Builtin.Str.tooLong
    have h3 := small1000 h2
    exact decide_eq_false (by omega)
  · have h0 : ¬ ((n : Int) < 1) := by omega
    rw [if_neg h0]
    by_cases e1 : n = 1
    · subst e1
      rw [if_pos (by rfl)]
      exact ⟨.str (tx [c]), H, I, ⟨_, rfl⟩, q⟩
    · have e2 : (((n : Int) == 1) || ((sg c).length == 0)) = false := by
        have : ((n : Int) == 1) = false := by
          rw [beq_eq_false_iff_ne]
          omega
        rw [this]
        rfl
      rw [if_neg (by rw [e2]; exact Bool.false_ne_true)]
      have e3 : (⟨(List.replicate (n : Int).toNat (sg c).cps).foldl (· ++ ·) #[]⟩ : Str) = tx (List.replicate n c) := by
        rw [tx_of ⟨_⟩]
        congr 1
        have := hrep n #[]
        simpa using this
      rw [e3]
      refine ⟨?_, .str (tx (List.replicate n c)), H, I.tok _, ⟨_, rfl⟩, q⟩
      rw [tx_len, List.length_replicate]
      exact Nat.le_of_lt (small1000 h2)
end
end Tx
set_option linter.all false
/-! the mathematics of k33: maps of signs -/
namespace M33
def tog (S a b : List Nat) : List Nat := a.map fun c => b.getD (S.idxOf c) 0
structure IsMap (S m : List Nat) : Prop where
  len : m.length = S.length
  mem : ∀ c ∈ m, c ∈ S
def P (S m : List Nat) : Nat → List Nat
  | 0 => S
  | k + 1 => tog S (P S m k) m
theorem tog_len (S a b : List Nat) : (tog S a b).length = a.length := List.length_map ..
theorem getD_mem {l : List Nat} {i : Nat} (h : i < l.length) : l.getD i 0 ∈ l := by
  rw [List.getD_eq_getElem?_getD, List.getElem?_eq_getElem h]
  exact List.getElem_mem h
theorem IsMap.tog {S a b : List Nat} (ha : IsMap S a) (hb : IsMap S b) : IsMap S (tog S a b) := by
  refine ⟨(tog_len S a b).trans ha.len, fun c hc => ?_⟩
  obtain ⟨x, hx, rfl⟩ := List.mem_map.mp hc
  refine hb.mem _ (getD_mem ?_)
  rw [hb.len]
  exact List.idxOf_lt_length_of_mem (ha.mem x hx)
theorem IsMap.self (S : List Nat) : IsMap S S := ⟨rfl, fun _ h => h⟩
theorem IsMap.P {S m : List Nat} (h : IsMap S m) : ∀ k, IsMap S (P S m k)
  | 0 => .self S
  | k + 1 => (IsMap.P h k).tog h
theorem tog_id {S b : List Nat} (hS : S.Nodup) (hb : b.length = S.length) : tog S S b = b := by
  refine List.ext_getElem? fun i => ?_
  unfold tog
  rw [List.getElem?_map]
  by_cases hi : i < S.length
  · rw [List.getElem?_eq_getElem hi]
    show some (b.getD (S.idxOf S[i]) 0) = b[i]?
    rw [hS.idxOf_getElem i hi, List.getD_eq_getElem?_getD, List.getElem?_eq_getElem (show i < b.length by omega)]
    rfl
  · rw [List.getElem?_eq_none (by omega), List.getElem?_eq_none (by omega)]
    rfl
theorem tog_assoc {S a b c : List Nat} (ha : IsMap S a) (hb : IsMap S b) : tog S (tog S a b) c = tog S a (tog S b c) := by
  unfold tog
  rw [List.map_map]
  refine List.map_congr_left fun x hx => ?_
  have hi : S.idxOf x < b.length := by
    rw [hb.len]
    exact List.idxOf_lt_length_of_mem (ha.mem x hx)
  show c.getD (S.idxOf (b.getD (S.idxOf x) 0)) 0 = (b.map fun d => c.getD (S.idxOf d) 0).getD (S.idxOf x) 0
  rw [List.getD_eq_getElem?_getD (l := b.map _), List.getElem?_map, List.getElem?_eq_getElem hi, List.getD_eq_getElem?_getD (l := b), List.getElem?_eq_getElem hi]
  rfl
theorem P_add {S m : List Nat} (hS : S.Nodup) (hm : IsMap S m) (i : Nat) : ∀ j, P S m (i + j) = tog S (P S m i) (P S m j)
  | 0 => by
    show P S m i = tog S (P S m i) S
    have h := hm.P i
    refine List.ext_getElem? fun k => ?_
    unfold tog
    rw [List.getElem?_map]
    cases hk : (P S m i)[k]? with
    | none => rfl
    | some c =>
      have hlt := List.idxOf_lt_length_of_mem (h.mem _ (List.mem_of_getElem? hk))
      show some c = some (S.getD (S.idxOf c) 0)
      rw [List.getD_eq_getElem?_getD, List.getElem?_eq_getElem hlt]
      exact congrArg some (List.getElem_idxOf hlt).symm
  | j + 1 => by
    show tog S (P S m (i + j)) m = tog S (P S m i) (tog S (P S m j) m)
    rw [P_add hS hm i j, tog_assoc (hm.P i) (hm.P j)]
/-! ### coming again -/
structure Cyc (S m : List Nat) (L at_ : Nat) : Prop where
  lt : at_ < L
  eq : P S m L = P S m at_
  ne : ∀ i j, i < j → j < L → P S m i ≠ P S m j
theorem Cyc.same {S m : List Nat} {L a L' a' : Nat} (h : Cyc S m L a) (h' : Cyc S m L' a') : L = L' ∧ a = a' := by
  have e : L = L' := by
    rcases Nat.lt_trichotomy L L' with q | q | q
    · exact absurd h.eq.symm (h'.ne a L h.lt q)
    · exact q
    · exact absurd h'.eq.symm (h.ne a' L' h'.lt q)
  subst e
  refine ⟨rfl, ?_⟩
  have e := h.eq.symm.trans h'.eq
  rcases Nat.lt_trichotomy a a' with q | q | q
  · exact absurd e (h.ne a a' q h'.lt)
  · exact q
  · exact absurd e.symm (h.ne a' a q h.lt)
theorem Cyc.step {S m : List Nat} {L a : Nat} (hS : S.Nodup) (hm : IsMap S m) (h : Cyc S m L a) (k : Nat) : P S m (L + k) = P S m (a + k) := by
  rw [P_add hS hm, h.eq, ← P_add hS hm]
theorem Cyc.round {S m : List Nat} {L a : Nat} (hS : S.Nodup) (hm : IsMap S m) (h : Cyc S m L a) (r : Nat) : ∀ t, P S m (a + (r + (L - a) * t)) = P S m (a + r)
  | 0 => rfl
  | t + 1 => by
    have hl := h.lt
    have e : a + (r + (L - a) * (t + 1)) = L + (r + (L - a) * t) := by
      rw [Nat.mul_succ]
      omega
    rw [e, h.step hS hm, h.round hS hm r t]
theorem Cyc.far {S m : List Nat} {L a n : Nat} (hS : S.Nodup) (hm : IsMap S m) (h : Cyc S m L a) (hn : L ≤ n) : P S m n = P S m (a + (n - a) % (L - a)) := by
  have hl := h.lt
  have e : n = a + ((n - a) % (L - a) + (L - a) * ((n - a) / (L - a))) := by
    have := Nat.mod_add_div (n - a) (L - a)
    omega
  have := h.round hS hm ((n - a) % (L - a)) ((n - a) / (L - a))
  rw [← e] at this
  exact this
/-! ### there are few maps -/
theorem nodup_le : ∀ (n : Nat) (l : List Nat), l.Nodup → (∀ x ∈ l, x < n) → l.length ≤ n
  | 0, l, _, h => by
    cases l with
    | nil => exact Nat.le_refl _
    | cons x r => exact absurd (h x List.mem_cons_self) (Nat.not_lt_zero x)
  | n + 1, l, nd, h => by
    by_cases hn : n ∈ l
    · have e := List.length_erase_of_mem hn
      have := nodup_le n (l.erase n) (nd.erase n) fun x hx => by
        have h1 := (nd.mem_erase_iff).mp hx
        have h2 := h x h1.2
        have h3 := h1.1
        omega
      omega
    · have := nodup_le n l nd fun x hx => by
        have h2 := h x hx
        have h3 : x ≠ n := fun e => hn (e ▸ hx)
        omega
      omega
def enc (S : List Nat) : List Nat → Nat
  | [] => 0
  | c :: r => S.idxOf c + 4 * enc S r
theorem enc_lt {S : List Nat} (h4 : S.length ≤ 4) : ∀ m : List Nat, (∀ c ∈ m, c ∈ S) → enc S m < 4 ^ m.length
  | [], _ => Nat.one_pos
  | c :: r, h => by
    have h1 := List.idxOf_lt_length_of_mem (h c List.mem_cons_self)
    have h2 := enc_lt h4 r fun x hx => h x (List.mem_cons_of_mem _ hx)
    show S.idxOf c + 4 * enc S r < 4 ^ (r.length + 1)
    rw [Nat.pow_succ]
    omega
theorem enc_inj {S : List Nat} (h4 : S.length ≤ 4) : ∀ (m m' : List Nat), m.length = m'.length → (∀ c ∈ m, c ∈ S) → (∀ c ∈ m', c ∈ S) → enc S m = enc S m' → m = m'
  | [], [], _, _, _, _ => rfl
  | [], _ :: _, h, _, _, _ => by cases h
  | _ :: _, [], h, _, _, _ => by cases h
  | c :: r, c' :: r', hl, h, h', e => by
    have h1 := List.idxOf_lt_length_of_mem (h c List.mem_cons_self)
    have h1' := List.idxOf_lt_length_of_mem (h' c' List.mem_cons_self)
    have e' : S.idxOf c + 4 * enc S r = S.idxOf c' + 4 * enc S r' := e
    have e1 : S.idxOf c = S.idxOf c' := by omega
    have e2 : enc S r = enc S r' := by omega
    have er := enc_inj h4 r r' (Nat.succ.inj hl) (fun x hx => h x (List.mem_cons_of_mem _ hx)) (fun x hx => h' x (List.mem_cons_of_mem _ hx)) e2
    have ec : c = c' := by
      have a1 := List.getElem_idxOf h1
      have a2 := List.getElem_idxOf h1'
      have a3 : S[S.idxOf c] = S[S.idxOf c'] := by simp only [e1]
      rw [← a1, ← a2, a3]
    rw [ec, er]
/-- so many different powers there are at most -/
theorem few {S m : List Nat} (h4 : S.length ≤ 4) (hm : IsMap S m) {n : Nat} (hne : ∀ i j, i < j → j < n → P S m i ≠ P S m j) : n ≤ 256 := by
  have key := nodup_le 256 ((List.range n).map fun k => enc S (P S m k)) ?_ ?_
  · simpa using key
  · refine List.pairwise_iff_getElem.mpr fun i j hi hj hij => ?_
    have hj' : j < n := by simpa using hj
    have e1 : ((List.range n).map fun k => enc S (P S m k))[i] = enc S (P S m i) := by simp
    have e2 : ((List.range n).map fun k => enc S (P S m k))[j] = enc S (P S m j) := by simp
    rw [e1, e2]
    exact fun e => hne i j hij hj' (enc_inj h4 _ _ ((hm.P i).len.trans (hm.P j).len.symm) (hm.P i).mem (hm.P j).mem e)
  · intro x hx
    obtain ⟨k, _, rfl⟩ := List.mem_map.mp hx
    have h1 := enc_lt h4 (P S m k) (hm.P k).mem
    rw [(hm.P k).len] at h1
    exact Nat.lt_of_lt_of_le h1 (Nat.le_trans (Nat.pow_le_pow_right (by decide) h4) (by decide))
end M33
set_option Elab.async false
set_option linter.all false
set_option maxRecDepth 100000
set_option maxHeartbeats 4000000
namespace K33
open PySem PySem.Spec PyProof.Rows L2 Fd Tx
def topS (i : Nat) : Stmt := PySem.Challenge.pw_bandprint_k33_maps_of_signs.main.body.getD i (.Pass ⟨0, 0, 0, 0⟩)
abbrev s_copied : Stmt := topS 1
abbrev s_init : Stmt := inClass (topS 2) 0
abbrev s_together : Stmt := topS 4
abbrev s_power : Stmt := topS 5
abbrev s_powers : Stmt := topS 6
abbrev s_map_round : Stmt := topS 7
abbrev s_times_to : Stmt := topS 8
abbrev s_is_one_to_one : Stmt := topS 9
abbrev s_turned_map : Stmt := topS 10
abbrev s_sources : Stmt := topS 11
abbrev s__law_feed : Stmt := topS 13
abbrev s__law_draw : Stmt := topS 14
abbrev s__law_pick : Stmt := topS 15
abbrev s__law_signs : Stmt := topS 16
abbrev s__law_mixed : Stmt := topS 17
abbrev s__law_any_map : Stmt := topS 18
abbrev s__law_then : Stmt := topS 19
abbrev s__law_all_powers : Stmt := topS 20
abbrev s__law_turned : Stmt := topS 21
abbrev s__law_right : Stmt := topS 22
abbrev s_law : Stmt := topS 23
/-- where the defs stand -/
structure Fs where
  f_copied : Addr
  d_copied : FuncData
  f_together : Addr
  d_together : FuncData
  f_power : Addr
  d_power : FuncData
  f_powers : Addr
  d_powers : FuncData
  f_map_round : Addr
  d_map_round : FuncData
  f_times_to : Addr
  d_times_to : FuncData
  f_is_one_to_one : Addr
  d_is_one_to_one : FuncData
  f_turned_map : Addr
  d_turned_map : FuncData
  f_sources : Addr
  d_sources : FuncData
  f__law_feed : Addr
  d__law_feed : FuncData
  f__law_draw : Addr
  d__law_draw : FuncData
  f__law_pick : Addr
  d__law_pick : FuncData
  f__law_signs : Addr
  d__law_signs : FuncData
  f__law_mixed : Addr
  d__law_mixed : FuncData
  f__law_any_map : Addr
  d__law_any_map : FuncData
  f__law_then : Addr
  d__law_then : FuncData
  f__law_all_powers : Addr
  d__law_all_powers : FuncData
  f__law_turned : Addr
  d__law_turned : FuncData
  f__law_right : Addr
  d__law_right : FuncData
  C_NotOne : Addr
  f_init : Addr
  d_init : FuncData
structure Txt (K : PySem.W.Frag) (mg : Str → Option Value) (B : Fs) : Prop where
  F_copied : Fun K "copied" "copied" s_copied B.f_copied B.d_copied
  m_copied : mg "copied" = some (.ref B.f_copied)
  b_copied : Binds K B.d_copied ["thing"] []
  F_together : Fun K "together" "together" s_together B.f_together B.d_together
  m_together : mg "together" = some (.ref B.f_together)
  b_together : Binds K B.d_together ["signs", "one", "other"] []
  F_power : Fun K "power" "power" s_power B.f_power B.d_power
  m_power : mg "power" = some (.ref B.f_power)
  b_power : Binds K B.d_power ["signs", "one", "times"] []
  F_powers : Fun K "powers" "powers" s_powers B.f_powers B.d_powers
  m_powers : mg "powers" = some (.ref B.f_powers)
  b_powers : Binds K B.d_powers ["signs", "one"] []
  F_map_round : Fun K "map_round" "map_round" s_map_round B.f_map_round B.d_map_round
  m_map_round : mg "map_round" = some (.ref B.f_map_round)
  b_map_round : Binds K B.d_map_round ["signs", "one"] []
  F_times_to : Fun K "times_to" "times_to" s_times_to B.f_times_to B.d_times_to
  m_times_to : mg "times_to" = some (.ref B.f_times_to)
  b_times_to : Binds K B.d_times_to ["signs", "one", "other"] []
  F_is_one_to_one : Fun K "is_one_to_one" "is_one_to_one" s_is_one_to_one B.f_is_one_to_one B.d_is_one_to_one
  m_is_one_to_one : mg "is_one_to_one" = some (.ref B.f_is_one_to_one)
  b_is_one_to_one : Binds K B.d_is_one_to_one ["signs", "one"] []
  F_turned_map : Fun K "turned_map" "turned_map" s_turned_map B.f_turned_map B.d_turned_map
  m_turned_map : mg "turned_map" = some (.ref B.f_turned_map)
  b_turned_map : Binds K B.d_turned_map ["signs", "one"] []
  F_sources : Fun K "sources" "sources" s_sources B.f_sources B.d_sources
  m_sources : mg "sources" = some (.ref B.f_sources)
  b_sources : Binds K B.d_sources ["signs", "one", "sign"] []
  F__law_feed : Fun K "_law_feed" "_law_feed" s__law_feed B.f__law_feed B.d__law_feed
  m__law_feed : mg "_law_feed" = some (.ref B.f__law_feed)
  b__law_feed : Binds K B.d__law_feed ["_law_script"] []
  F__law_draw : Fun K "_law_draw" "_law_draw" s__law_draw B.f__law_draw B.d__law_draw
  m__law_draw : mg "_law_draw" = some (.ref B.f__law_draw)
  b__law_draw : Binds K B.d__law_draw ["_law_feed_here", "_law_many"] []
  F__law_pick : Fun K "_law_pick" "_law_pick" s__law_pick B.f__law_pick B.d__law_pick
  m__law_pick : mg "_law_pick" = some (.ref B.f__law_pick)
  b__law_pick : Binds K B.d__law_pick ["_law_feed_here", "_law_some"] []
  F__law_signs : Fun K "_law_signs" "_law_signs" s__law_signs B.f__law_signs B.d__law_signs
  m__law_signs : mg "_law_signs" = some (.ref B.f__law_signs)
  b__law_signs : Binds K B.d__law_signs ["_law_feed_here", "_law_many"] []
  F__law_mixed : Fun K "_law_mixed" "_law_mixed" s__law_mixed B.f__law_mixed B.d__law_mixed
  m__law_mixed : mg "_law_mixed" = some (.ref B.f__law_mixed)
  b__law_mixed : Binds K B.d__law_mixed ["_law_feed_here", "_law_signs_here"] []
  F__law_any_map : Fun K "_law_any_map" "_law_any_map" s__law_any_map B.f__law_any_map B.d__law_any_map
  m__law_any_map : mg "_law_any_map" = some (.ref B.f__law_any_map)
  b__law_any_map : Binds K B.d__law_any_map ["_law_feed_here", "_law_signs_here"] []
  F__law_then : Fun K "_law_then" "_law_then" s__law_then B.f__law_then B.d__law_then
  m__law_then : mg "_law_then" = some (.ref B.f__law_then)
  b__law_then : Binds K B.d__law_then ["_law_signs_here", "_law_one", "_law_other"] []
  F__law_all_powers : Fun K "_law_all_powers" "_law_all_powers" s__law_all_powers B.f__law_all_powers B.d__law_all_powers
  m__law_all_powers : mg "_law_all_powers" = some (.ref B.f__law_all_powers)
  b__law_all_powers : Binds K B.d__law_all_powers ["_law_signs_here", "_law_one"] []
  F__law_turned : Fun K "_law_turned" "_law_turned" s__law_turned B.f__law_turned B.d__law_turned
  m__law_turned : mg "_law_turned" = some (.ref B.f__law_turned)
  b__law_turned : Binds K B.d__law_turned ["_law_signs_here", "_law_one"] []
  F__law_right : Fun K "_law_right" "_law_right" s__law_right B.f__law_right B.d__law_right
  m__law_right : mg "_law_right" = some (.ref B.f__law_right)
  b__law_right : Binds K B.d__law_right ["_law_feed_here", "_law_signs_here", "_law_one", "_law_other"] []
  z_len : mg "len" = none
  z_abs : mg "abs" = none
  z_range : mg "range" = none
  z_isinstance : mg "isinstance" = none
  z_list : mg "list" = none
  z_tuple : mg "tuple" = none
  z_dict : mg "dict" = none
  z_all : mg "all" = none
  z_zip : mg "zip" = none
  z_sorted : mg "sorted" = none
  z_repr : mg "repr" = none
  z_LookupError : mg "LookupError" = none
  F_init : Fun K "__init__" "NotOne.__init__" s_init B.f_init B.d_init
  b_init : Binds K B.d_init ["self", "sign"] []
  m_NotOne : mg "NotOne" = some (.ref B.C_NotOne)
  X_NotOne : ExH.OexB "LookupError.__new__" ExH.tailLE K B.C_NotOne
  i_NotOne : PySem.W.findIn K (.ref B.C_NotOne) "__init__" = some (some (.ref B.f_init))
  t_NotOne : PySem.W.typeIn K (.ref B.f_init) = some (.type "function")
  n_NotOne : PySem.W.findIn K (.ref B.C_NotOne) "sign" = some none
  xf_NotOne : XfC K B.C_NotOne
  is_NotOne : ExH.IsC K B.C_NotOne
  sub_NotOne : PySem.W.subIn K (.ref B.C_NotOne) (.ref B.C_NotOne) = some true
  hd_NotOne : PySem.W.hasDictIn K B.C_NotOne = true
  le_NotOne : PySem.W.kitOne K (.ref B.C_NotOne) (.type "LookupError") = some true
  v_LE : PySem.W.findCls K (.type "LookupError") (.type "type") "__init__" = some (.val (.builtin "LookupError.__init__"))
section
variable {P : Program} {w : World} {K : PySem.W.Frag} {mg : Str → Option Value} {base : Heap} {B : Fs} {k : Nat}
/-! ### _law_draw -/
abbrev N__law_draw : List Str := ["_law_feed_here", "_law_many", "_law_digit", "_law_at", "_law_cell", "_law_mixed_here"]
theorem sc__law_draw : FnScope N__law_draw ["_law_feed_here", "_law_many"] (defScope s__law_draw) :=
  ⟨rfl, rfl, rfl, by decide +kernel, rfl, by decide +kernel, by decide +kernel⟩
theorem div64 {i m : Int} (h : 0 < m) (h2 : m < 2 ^ 64) : CDivW i m := wide_div (b := 64) h (by omega) (by decide) (by decide)
theorem ok__law_draw (T : Txt K mg B) : FnOk P w K mg base CX0 (k + 1) B.f__law_draw B.d__law_draw ["_law_feed_here", "_law_many"] spDraw := by
  refine T.F__law_draw.ok sc__law_draw (fun vs H Q E h => ?_) (fun cdv A outer s H vs Q E hr h => ?_)
  · obtain ⟨d, l, cs, n, m, rfl, _⟩ := h
    rfl
  · obtain ⟨d, l, cs, n, m, rfl, F, hn, hm, hm2, q⟩ := h
    obtain ⟨⟨a, f, ha, e⟩, hl, hlen⟩ := id F
    have hu := hu_of hr
    have nd := sc__law_draw.nd
    refine ⟨_, (pss_cons (ps_if (pt_cmpR op_gt (pe_dget hu (pv 0) pe_str (fun _ _ => rfl)) pe_int (nomark _))
          (pss_cons (ps_set (i := 2) nd rfl (.inl rfl) (pe_op op_mod (pe_dget hu (pv 0) pe_str (fun _ _ => rfl)) (pv 1)))
            (pss_cons (ps_dput hu (pv 0) pe_str (pe_op op_fdivW (pe_dget hu (pv 0) pe_str (fun _ _ => rfl)) (pv 1)) rfl)
            (pss_one (ps_ret (pv 2)))))
          pss_nil)
      (pss_cons (ps_set (i := 3) nd rfl (.inl rfl) (pe_dget hu (pv 0) pe_str (fun _ _ => rfl)))
      (pss_cons (ps_dput hu (pv 0) pe_str (pe_op op_add (pv 3) pe_int) rfl)
      (pss_cons (ps_set (i := 4) nd rfl (.inl rfl) (pe_op op_add (pe_op op_add (pe_op op_mul (pe_op op_mul pe_int (pv 3)) (pv 3)) (pe_op op_mul pe_int (pv 3))) pe_int))
      (C8.pss_cut (ps_if (pt_cmpR (op_neD hr.units) (pe_dget hu (pv 0) pe_str (fun _ _ => rfl)) (pe_lst pa_nil) (nomark _))
          (pss_one (ps_set (i := 4) nd rfl (.inl rfl) (pe_op op_add (pv 4) (pe_ix ix_list (pe_dget hu (pv 0) pe_str (fun _ _ => rfl)) (pe_op op_mod (pv 3) (pe_callB call_len_seq (by rfl) T.z_len (by decide +kernel) (pa_cons (pe_dget hu (pv 0) pe_str (fun _ _ => rfl)) pa_nil))) (fun _ _ => rfl)))))
          pss_nil)
      (C8.pss_cut (ps_if (PW.pt (pw_and (pt_cmpR op_lt (pv 3) (pe_callB call_len_seq (by rfl) T.z_len (by decide +kernel) (pa_cons (pe_dget hu (pv 0) pe_str (fun _ _ => rfl)) pa_nil)) (nomark _)) (pw_and1 (pt_cmpR op_ge (pe_callB call_abs (by rfl) T.z_abs (by decide +kernel) (pa_cons (pv 4) pa_nil)) (pe_op op_pow pe_int pe_int) (nomark _)))))
          (pss_cons (ps_dput hu (pv 0) pe_str (pe_op op_fdivW (pe_op op_sub (pe_callB call_abs (by rfl) T.z_abs (by decide +kernel) (pa_cons (pv 4) pa_nil)) (pe_op op_pow pe_int pe_int)) (pv 1)) rfl)
            (pss_one (ps_ret (pe_op op_mod (pe_op op_sub (pe_callB call_abs (by rfl) T.z_abs (by decide +kernel) (pa_cons (pv 4) pa_nil)) (pe_op op_pow pe_int pe_int)) (pv 1)))))
          pss_nil)
      (pss_cons (ps_set (i := 5) nd rfl (.inl rfl) (pe_op op_mod (pe_op op_add (pe_op op_mul (pv 4) pe_int) (pe_op op_mul pe_int (pe_op op_add (pv 3) pe_int))) pe_int))
      (pss_cons (ps_set (i := 5) nd rfl (.inl rfl) (pe_op op_mod (pe_op op_mul (pv 5) (pe_op op_add (pv 5) pe_int)) pe_int))
      (pss_one (ps_ret (pe_op op_mod (pe_op op_fdivW (pv 5) pe_int) (pv 1)))))))))))), ?_⟩
    -- if feed["left"] > 0
    refine ⟨_, rfl, d, _, rfl, dg_left e, _, _, rfl, rfl, _, rfl, ite2 (fun c => ?_) (fun c => ?_)⟩
    · refine ⟨_, rfl, d, _, rfl, dg_left e, _, rfl, _, _, rfl, rfl, hm, ?_⟩
      refine ⟨_, rfl, d, _, rfl, dg_left e, _, rfl, _, _, rfl, rfl, div64 hm hm2, _, rfl, d, _, rfl, dp_left e, ?_⟩
      refine ⟨_, rfl, ?_⟩
      obtain ⟨r, er, hr'⟩ := digit (x := f) hm
      have z := q r (upd H d (.dK (feedK l a (f / m)))) hr' ⟨⟨a, _, by omega, upd_same⟩, by rw [upd_ne F.ne]; exact hl, hlen⟩ keep_upd
      rw [er] at z
      exact z
    · -- at
      refine ⟨_, rfl, d, _, rfl, dg_at e, ?_⟩
      refine ⟨_, rfl, _, _, rfl, rfl, _, rfl, d, _, rfl, dp_at e, ?_⟩
      have e1 : (upd H d (.dK (feedK l ((a : Int) + 1) f))) d = some (.dK (feedK l ((a : Int) + 1) f)) := upd_same
      have hl1 : (upd H d (.dK (feedK l ((a : Int) + 1) f))) l = some (.lst (cs.map V.int)) := by
        rw [upd_ne F.ne]
        exact hl
      have k1 : Keep d H (upd H d (.dK (feedK l ((a : Int) + 1) f))) := keep_upd
      generalize upd H d (.dK (feedK l ((a : Int) + 1) f)) = H1 at e1 hl1 k1 ⊢
      refine ⟨_, rfl, _, _, rfl, rfl, .inl ⟨by decide, by decide⟩, _, rfl, _, _, rfl, rfl, .inr ⟨?_, ?_⟩, _, rfl, _, _, rfl, rfl, .inl ⟨by decide, by decide⟩, _, _, rfl, rfl, _, _, rfl, rfl, ?_⟩
      · show -(2 ^ 64) < (a : Int)
        omega
      · show (a : Int) < 2 ^ 64
        omega
      -- if cells != []
      refine ⟨fun σ H2 => ∃ x : Int, σ = [some (.ref d), some (.int m), none, some (.int a), some (.int x), none] ∧ H2 d = some (.dK (feedK l ((a : Int) + 1) f)) ∧ H2 l = some (.lst (cs.map V.int)) ∧ Keep d H H2, ?_, ?_⟩
      · refine ⟨_, rfl, d, _, rfl, dg_cells e1, Nat.zero_le _, fun p np => ?_⟩
        have e2 : (upd H1 p (.lst [])) d = some (.dK (feedK l ((a : Int) + 1) f)) := by
          rw [upd_ne (ne_of_none e1 np)]
          exact e1
        have hl2 : (upd H1 p (.lst [])) l = some (.lst (cs.map V.int)) := by
          rw [upd_ne (ne_of_none hl1 np)]
          exact hl1
        have k2 : Keep d H (upd H1 p (.lst [])) := k1.trans (keep_new np)
        refine ⟨.list (cs.map PyData.int), .list [], .lst (.inl (.inl hl2)) (dp_ints cs), .lst (.inl (.inl upd_same)) .nil, PySem.W.ke_shaped_ints cs, by decide, _, rfl, ?_⟩
        rw [eqv_nil]
        cases cs with
        | nil => exact iteF ⟨_, rfl, e2, hl2, k2⟩
        | cons c0 cs0 =>
          refine iteT ?_
          have hp : 0 < (c0 :: cs0).length := Nat.succ_pos _
          have hlt : a % (c0 :: cs0).length < (c0 :: cs0).length := Nat.mod_lt _ hp
          have ei : ((a : Int) % (((c0 :: cs0).map V.int).length : Int)) = ((a % (c0 :: cs0).length : Nat) : Int) := by
            rw [List.length_map, Int.natCast_emod]
          have g : atI ((c0 :: cs0).map V.int) ((a : Int) % (((c0 :: cs0).map V.int).length : Int)) = some (.int (c0 :: cs0)[a % (c0 :: cs0).length]) := by
            rw [ei]
            refine atI_nat ?_
            rw [List.getElem?_map, List.getElem?_eq_getElem hlt]
            rfl
          refine ⟨_, rfl, _, rfl, d, _, rfl, dg_cells e2, _, rfl, _, rfl, d, _, rfl, dg_cells e2, l, _, rfl, .inl (.inl (.inl hl2)), _, _, rfl, rfl, ?_, l, _, _, _, rfl, rfl, .inl (.inl hl2), g, _, _, rfl, rfl, ?_⟩
          · show (0 : Int) < (((c0 :: cs0).map V.int).length : Int)
            rw [List.length_map]
            omega
          · exact ⟨_, rfl, e2, hl2, k2⟩
      · rintro σ H2 ⟨x, rfl, e2, hl2, k2⟩
        have fin : ∀ (y : Int) (b : Int) (H3 : Hp), H3 d = some (.dK (feedK l ((a : Int) + 1) b)) → H3 l = some (.lst (cs.map V.int)) → Keep d H H3 → Q (.int (y % m)) H3 := fun y b H3 e3 hl3 k3 => by
          obtain ⟨r, er, hr'⟩ := digit (x := y) hm
          have z := q r H3 hr' ⟨⟨a + 1, b, by omega, e3⟩, hl3, hlen⟩ k3
          rw [er] at z
          exact z
        -- if at < len(cells) and abs(cell) >= 10 ** 18
        refine ⟨fun σ H3 => σ = [some (.ref d), some (.int m), none, some (.int a), some (.int x), none] ∧ H3 = H2, ?_, ?_⟩
        · refine ⟨_, rfl, _, rfl, d, _, rfl, dg_cells e2, l, _, rfl, .inl (.inl (.inl hl2)), _, _, rfl, rfl, _, rfl, ?_⟩
          refine ite2 (fun c1 => ?_) (fun c1 => iteF ⟨rfl, rfl⟩)
          refine ⟨_, rfl, _, rfl, _, _, rfl, rfl, ⟨by decide, by decide, by decide⟩, _, _, rfl, rfl, _, rfl, ite2 (fun c2 => ?_) (fun c2 => ⟨rfl, rfl⟩)⟩
          refine ⟨_, rfl, _, rfl, _, _, rfl, rfl, ⟨by decide, by decide, by decide⟩, _, _, rfl, rfl, _, rfl, _, _, rfl, rfl, div64 hm hm2, _, rfl, d, _, rfl, dp_left e2, ?_⟩
          refine ⟨_, rfl, _, rfl, _, _, rfl, rfl, ⟨by decide, by decide, by decide⟩, _, _, rfl, rfl, _, rfl, _, _, rfl, rfl, hm, ?_⟩
          exact fin _ _ _ upd_same (by rw [upd_ne F.ne]; exact hl2) (k2.trans keep_upd)
        · rintro σ H3 ⟨rfl, rfl⟩
          refine ⟨_, rfl, _, _, rfl, rfl, .inr ⟨by decide, by decide⟩, _, rfl, _, _, rfl, rfl, _, _, rfl, rfl, .inl ⟨by decide, by decide⟩, _, _, rfl, rfl, _, _, rfl, rfl, (show (0 : Int) < 18446744073709551557 by decide), ?_⟩
          generalize hy : (x * 6364136223846793005 + 1442695040888963407 * ((a : Int) + 1)) % 18446744073709551557 = y
          have y0 : 0 ≤ y := by rw [← hy]; exact Int.emod_nonneg _ (by decide)
          have y1 : y < 18446744073709551557 := by rw [← hy]; exact Int.emod_lt_of_pos _ (by decide)
          refine ⟨_, rfl, _, rfl, _, _, rfl, rfl, _, _, rfl, rfl, .inl ⟨?_, ?_⟩, _, _, rfl, rfl, (show (0 : Int) < 18446744073709551557 by decide), ?_⟩
          · show -(2 ^ 64) < (x * 6364136223846793005 + 1442695040888963407 * ((a : Int) + 1)) % 18446744073709551557
            omega
          · show (x * 6364136223846793005 + 1442695040888963407 * ((a : Int) + 1)) % 18446744073709551557 < 2 ^ 64
            omega
          refine ⟨_, rfl, _, _, rfl, rfl, div64 (by decide) (by decide), _, rfl, _, _, rfl, rfl, hm, ?_⟩
          exact fin _ _ _ e2 hl2 k2
/-! ### _law_feed -/
theorem merge_feed (l : Addr) (a f : Int) : mergeK [] (feedK l a f) = feedK l a f := by
  have p1 : putK ([] : List (Key × V)) (Sum.inr ("cells" : Str)) (.ref l) = [(Sum.inr ("cells" : Str), .ref l)] := putK_new _ rfl
  have p2 : putK [((Sum.inr ("cells" : Str) : Key), V.ref l)] (Sum.inr ("at" : Str)) (.int a) = [(Sum.inr ("cells" : Str), .ref l), (Sum.inr ("at" : Str), .int a)] := putK_new _ (valV_neg n1)
  have p3 : putK [((Sum.inr ("cells" : Str) : Key), V.ref l), (Sum.inr ("at" : Str), .int a)] (Sum.inr ("left" : Str)) (.int f) = feedK l a f := putK_new _ ((valV_neg n2).trans (valV_neg n3))
  show putK (putK (putK [] (Sum.inr ("cells" : Str)) (.ref l)) (Sum.inr ("at" : Str)) (.int a)) (Sum.inr ("left" : Str)) (.int f) = feedK l a f
  rw [p1, p2, p3]
theorem cut_ints (ns : List Int) (lo hi : Option Int) : ∃ cs : List Int, cutV (ns.map V.int) lo hi = cs.map V.int ∧ cs.length ≤ ns.length := by
  unfold cutV
  refine ⟨(ns.drop _).take _, by rw [List.map_take, List.map_drop], ?_⟩
  rw [List.length_take, List.length_drop]
  omega
abbrev N__law_feed : List Str := ["_law_script", "_law_cell"]
theorem sc__law_feed : FnScope N__law_feed ["_law_script"] (defScope s__law_feed) :=
  ⟨rfl, rfl, rfl, by decide +kernel, rfl, by decide +kernel, by decide +kernel⟩
theorem ok__law_feed (T : Txt K mg B) : FnOk P w K mg base CX0 (k + 1) B.f__law_feed B.d__law_feed ["_law_script"] (spFeed K) := by
  refine T.F__law_feed.ok sc__law_feed (fun vs H Q E h => ?_) (fun cdv A outer s H vs Q E hr h => ?_)
  · obtain ⟨p, ns, rfl, _⟩ := h
    rfl
  · obtain ⟨a, ns, rfl, hS, hlen, q⟩ := h
    have nd := sc__law_feed.nd
    refine ⟨_, (pss_one (ps_ret (pe_disp (pps_cons pe_str (pe_lc (own := [("_law_cell", 1)]) rfl nd (pi_list (pe_slice sl_list (pv 0) po_none (po_some pe_int))) (blkOk_by (own := [("_law_cell", 1)]) (N := N__law_feed) (sc := defScope s__law_feed) (by decide +kernel)) (fun _ _ _ _ _ => (pg_name (i := 1) nd rfl (.inl rfl))) (fun _ _ _ _ _ => pts_nil) (fun _ _ _ _ _ => (pv 1))) (pps_cons pe_str pe_int (pps_cons pe_str pe_int pps_nil))) (by rfl) (by rfl) (fun z => by cases z) (by decide)))), ?_⟩
    intro p np
    have s1 : Same H (upd H p (.dK [])) := same_new np
    have e1 : (upd H p (.dK [])) p = some (.dK []) := upd_same
    generalize upd H p (.dK []) = H1 at s1 e1 ⊢
    obtain ⟨cs, ecs, hcs⟩ := cut_ints ns none (some 63)
    refine ⟨_, rfl, 63, rfl, a, ns.map V.int, rfl, s1.seq hS, fun c nc => ?_⟩
    rw [ecs]
    have s2 : Same H1 (upd H1 c (.lst (cs.map V.int))) := same_new nc
    have e2 : (upd H1 c (.lst (cs.map V.int))) c = some (.lst (cs.map V.int)) := upd_same
    generalize upd H1 c (.lst (cs.map V.int)) = H2 at s2 e2 ⊢
    refine ⟨c, rfl, ⟨_, .inl (.inl e2)⟩, fun D nD => ?_⟩
    have hD : H D = none := (s1.trans s2).free nD
    refine lc_list (K := K) (a := c) (xs := cs.map V.int) (fun i H' => Same H2 H' ∧ H' D = some (.lst ((cs.take i).map V.int))) ⟨same_new nD, upd_same⟩ (fun i H' _ h => .inl (.inl (h.1 _ _ e2))) (fun i x H' hx h => ?_) (fun H' h => ?_)
    · refine ⟨rfl, _, rfl, _, h.2, ?_, ?_, ?_⟩
      · rw [List.length_map, List.length_take]
        exact small1000 (by omega)
      · intro b o e
        rw [upd_ne (ne_of_none e nD)]
        exact h.1 b o e
      · rw [upd_same]
        obtain ⟨z, hz, rfl⟩ : ∃ z, cs[i]? = some z ∧ x = V.int z := by
          rw [List.getElem?_map] at hx
          cases hc : cs[i]? with
          | none => rw [hc] at hx; cases hx
          | some z => rw [hc] at hx; cases hx; exact ⟨z, rfl, rfl⟩
        rw [List.take_add_one, hz, List.map_append]
        rfl
    · obtain ⟨s3, e3⟩ := h
      rw [List.length_map, List.take_length] at e3
      have ep : H' p = some (.dK []) := s3 _ _ (s2 _ _ e1)
      refine ⟨ep, feedK D 0 0, rfl, (by show 3 ≤ 15; decide), ?_⟩
      rw [merge_feed]
      refine q p D cs _ np hD ⟨⟨0, 0, Nat.le_refl _, upd_same⟩, ?_, by omega⟩ fun b o e => ?_
      · rw [upd_ne (ne_of e3 ep (by intro z; cases z))]
        exact e3
      · rw [upd_ne (ne_of_none e np)]
        exact s3 _ _ (s2 _ _ (s1 _ _ e))
/-! ### _law_pick -/
/-- spPickS: one of the items of a list or a text -/
def spPickS (K : PySem.W.Frag) : Sp := fun vs H Q _ => ∃ (d l : Addr) (cs : List Int) (n : Nat) (k : Zs.Src) (xs : List V), vs = [.ref d, k.v] ∧ FeedAt H d l cs n ∧ n ≤ 1000000 ∧ k.at K H xs ∧ 0 < xs.length ∧ xs.length < 1000 ∧
  ∀ (x : V) (H' : Hp), x ∈ xs → FeedAt H' d l cs (n + 1) → Keep d H H' → Q x H'
abbrev N__law_pick : List Str := ["_law_feed_here", "_law_some"]
theorem sc__law_pick : FnScope N__law_pick ["_law_feed_here", "_law_some"] (defScope s__law_pick) :=
  ⟨rfl, rfl, rfl, by decide +kernel, rfl, by decide +kernel, by decide +kernel⟩
theorem keep_src {H H' : Hp} {d l : Addr} {cs : List Int} {n : Nat} (F : FeedAt H d l cs n) (kp : Keep d H H') {k : Zs.Src} {xs : List V} (h : k.at K H xs) : k.at K H' xs := by
  cases k with
  | lst a => exact F.seq kp h
  | tup a =>
    obtain ⟨⟨a', f, ha, e⟩, q, z⟩ := F
    rcases h with (h | ⟨o, h⟩) | h
    · exact .inl (.inl (kp _ _ h (ne_of h e (by intro z; cases z))))
    · exact .inl (.inr ⟨o, kp _ _ h (ne_of h e (by intro z; cases z))⟩)
    · exact .inr h
  | str x => exact h
theorem ok__law_pick (T : Txt K mg B) : FnOk P w K mg base CX0 (k + 2) B.f__law_pick B.d__law_pick ["_law_feed_here", "_law_some"] (spPickS K) := by
  have G__law_draw : FnOk P w K mg base CX0 (k + 1) B.f__law_draw B.d__law_draw ["_law_feed_here", "_law_many"] spDraw := ok__law_draw T
  refine T.F__law_pick.ok sc__law_pick (fun vs H Q E h => ?_) (fun cdv A outer s H vs Q E hr h => ?_)
  · obtain ⟨d, l, cs, n, kk, xs, rfl, _⟩ := h
    rfl
  · obtain ⟨d, l, cs, n, kk, xs, rfl, F, hn, hS, hx0, hx1, q⟩ := h
    have nd := sc__law_pick.nd
    refine ⟨_, (pss_one (ps_ret (pe_ix ix_seq (pv 1) (pe_call G__law_draw hr (by rfl) T.m__law_draw T.F__law_draw.kp T.b__law_draw .nil pass0 (pa_cons (pv 0) (pa_cons (pe_callB call_len (by rfl) T.z_len (by decide +kernel) (pa_cons (pv 1) pa_nil)) pa_nil))) (fun _ _ => rfl)))), ?_⟩
    have hlen : LenV K kk.v H xs.length := by
      cases kk with
      | lst a => exact .inl ⟨xs, hS, rfl⟩
      | tup a => exact .inr ⟨xs, hS, rfl⟩
      | str x =>
        have e : xs.length = x.length := by
          rw [show xs = Zs.signsV x from hS]
          unfold Zs.signsV
          rw [List.length_map, Array.length_toList]
          rfl
        exact ⟨by rw [← e]; exact Nat.le_of_lt (small1000 (by omega)), e⟩
    refine ⟨_, rfl, _, rfl, _, rfl, kk.v, xs.length, rfl, hlen, d, l, cs, n, _, rfl, F, hn, (by omega), (by omega), fun r H' hr' F' kp => ?_⟩
    have hr2 : r < xs.length := by omega
    have hS' := keep_src F kp hS
    have fin := q _ H' (List.getElem_mem hr2) F' kp
    cases kk with
    | lst a => exact .inl ⟨a, xs, _, _, rfl, rfl, hS', atI_nat (List.getElem?_eq_getElem hr2), fin⟩
    | tup a => exact .inr (.inl ⟨a, xs, _, _, rfl, rfl, hS', atI_nat (List.getElem?_eq_getElem hr2), fin⟩)
    | str x =>
      have ex : xs = Zs.signsV x := hS
      have e : xs.length = x.cps.toList.length := by
        rw [ex]
        unfold Zs.signsV
        rw [List.length_map]
      have hr3 : r < x.cps.toList.length := by omega
      have ev : xs[r] = .str ⟨#[x.cps.toList[r]]⟩ := by
        have h1 : xs[r]? = some (.str ⟨#[x.cps.toList[r]]⟩) := by
          rw [ex]
          unfold Zs.signsV
          rw [List.getElem?_map, List.getElem?_eq_getElem hr3]
          rfl
        rw [List.getElem?_eq_getElem hr2] at h1
        exact Option.some.inj h1
      rw [ev] at fin
      refine .inr (.inr ⟨x, _, _, rfl, rfl, ?_, atI_nat (List.getElem?_eq_getElem hr3), fin⟩)
      show x.cps.size ≤ sizeLine
      rw [← Array.length_toList, ← e]
      exact Nat.le_of_lt (small1000 (by omega))
end
end K33
set_option Elab.async false
set_option linter.all false
set_option maxRecDepth 100000
set_option maxHeartbeats 4000000
namespace K33
open PySem PySem.Spec PyProof.Rows L2 Fd Tx M33
/-! ### comprehensions that give a list known beforehand -/
def PvL (H1 : Hp) (D : Addr) (out : List V) : Nat → Hp → Prop := fun i H => Same H1 H ∧ H D = some (.lst (out.take i))
theorem pvl0 {H1 : Hp} {D : Addr} {out : List V} (nD : H1 D = none) : PvL H1 D out 0 (upd H1 D (.lst [])) := ⟨same_new nD, upd_same⟩
theorem pvl_snoc {H1 H : Hp} {D : Addr} {out : List V} {i : Nat} {y : V} (nD : H1 D = none) (hl : out.length ≤ 1000) (h : PvL H1 D out i H) (hy : out[i]? = some y) :
    ∃ acc, H D = some (.lst acc) ∧ acc.length < sizeLine ∧ PvL H1 D out (i + 1) (upd H D (.lst (acc ++ [y]))) := by
  refine ⟨_, h.2, ?_, fun b o e => ?_, ?_⟩
  · rw [List.length_take]
    exact small1000 (by omega)
  · rw [upd_ne (ne_of_none e nD)]
    exact h.1 b o e
  · rw [upd_same, List.take_add_one, hy]
    rfl
theorem pvl_end {H1 H : Hp} {D : Addr} {out : List V} {n : Nat} (h : PvL H1 D out n H) (hn : out.length ≤ n) : Same H1 H ∧ H D = some (.lst out) := by
  refine ⟨h.1, ?_⟩
  have := h.2
  rwa [List.take_of_length_le hn] at this
theorem sV_len (cs : List Nat) : (sV cs).length = cs.length := List.length_map ..
theorem sV_at {cs : List Nat} {i c : Nat} (h : cs[i]? = some c) : (sV cs)[i]? = some (.str (sg c)) := by
  unfold sV
  rw [List.getElem?_map, h]
  rfl
theorem tx_at {a : List Nat} {i c : Nat} (h : (tx a).cps[i]? = some c) : a[i]? = some c := by
  have : (tx a).cps.toList[i]? = some c := by
    rw [Array.getElem?_toList]
    exact h
  rwa [tx_cps] at this
theorem joinQ {K : PySem.W.Frag} {H : Hp} {D : Addr} {cs : List Nat} {Q : VK} (e : H D = some (.lst (sV cs))) (h : cs.length ≤ 1000) (q : Q (.str (tx cs)) H) :
    ∃ a p, ∃ ys : List Str, V.str ("" : Str) = .str a ∧ [V.ref D] = [.ref p] ∧ (SqL K H p (ys.map V.str) ∨ SqT K H p (ys.map V.str)) ∧ (ys.map (·.length)).sum + ys.length * a.length ≤ 16777216 ∧ Q (.str (Txt.join a ys)) H := by
  refine ⟨_, D, cs.map sg, rfl, rfl, .inl ?_, ?_, ?_⟩
  · refine .inl (.inl ?_)
    rw [e, List.map_map]
    rfl
  · have h1 : ((cs.map sg).map (·.length)).sum = cs.length := by
      clear e q h
      induction cs with
      | nil => rfl
      | cons c r ih =>
        simp only [List.map_cons, List.sum_cons, List.length_cons]
        simp only [List.map_map] at ih
        rw [List.map_map, ih]
        show 1 + r.length = r.length + 1
        omega
    have h2 : ("" : Str).length = 0 := by decide +kernel
    rw [h1, h2]
    omega
  · rw [empty_tx, glued_signs]
    exact q
theorem idx_at {S : List Nat} {c : Nat} (h : c ∈ S) : S[S.idxOf c]? = some c := by
  have hl := List.idxOf_lt_length_of_mem h
  rw [List.getElem?_eq_getElem hl]
  exact congrArg some (List.getElem_idxOf hl)
theorem idx_first {S : List Nat} {c : Nat} : ∀ j, j < S.idxOf c → S[j]? ≠ some c := by
  intro j hj e
  have hl := (List.getElem?_eq_some_iff.mp e).1
  have := List.not_of_lt_findIdx (p := (· == c)) (xs := S) hj
  have e2 := (List.getElem?_eq_some_iff.mp e).2
  rw [e2] at this
  simp at this
theorem getD_at {b : List Nat} {i : Nat} (h : i < b.length) : atI (tx b).cps.toList (i : Int) = some (b.getD i 0) := by
  rw [tx_cps]
  refine atI_nat ?_
  rw [List.getD_eq_getElem?_getD, List.getElem?_eq_getElem h]
  rfl
theorem tx_small {b : List Nat} (h : b.length ≤ 1000) : (tx b).length ≤ sizeLine := by
  rw [tx_len]
  exact Nat.le_of_lt (small1000 h)
/-- a set of signs -/
structure Sg (S : List Nat) : Prop where
  nd : S.Nodup
  pos : 1 ≤ S.length
  len : S.length ≤ 4
  sm : ∀ c ∈ S, c < 128
section
variable {P : Program} {w : World} {K : PySem.W.Frag} {mg : Str → Option Value} {base : Heap} {B : Fs} {k : Nat}
/-! ### together -/
def spTog : Sp := fun vs H Q _ => ∃ S a b : List Nat, vs = [.str (tx S), .str (tx a), .str (tx b)] ∧ S.length ≤ 4 ∧ IsMap S a ∧ b.length = S.length ∧ ∀ H', Same H H' → Q (.str (tx (tog S a b))) H'
abbrev N_together : List Str := ["signs", "one", "other", "sign"]
theorem sc_together : FnScope N_together ["signs", "one", "other"] (defScope s_together) :=
  ⟨rfl, rfl, rfl, by decide +kernel, rfl, by decide +kernel, by decide +kernel⟩
theorem ok_together (T : Txt K mg B) : FnOk P w K mg base CX0 (k + 1) B.f_together B.d_together ["signs", "one", "other"] spTog := by
  refine T.F_together.ok sc_together (fun vs H Q E h => ?_) (fun cdv A outer s H vs Q E hr h => ?_)
  · obtain ⟨S, a, b, rfl, _⟩ := h
    rfl
  · obtain ⟨S, a, b, rfl, h4, ha, hb, q⟩ := h
    have nd := sc_together.nd
    refine ⟨_, (pss_one (ps_ret (pe_join pe_str (pe_lc (own := [("sign", 3)]) rfl nd (pi_str (pv 1)) (blkOk_by (own := [("sign", 3)]) (N := N_together) (sc := defScope s_together) (by decide +kernel)) (fun _ _ _ _ _ => (pg_name (i := 3) nd rfl (.inl rfl))) (fun _ _ _ _ _ => pts_nil) (fun _ _ _ _ _ => (pe_ix ix_str (pv 2) (pe_m1 PySem.F.slot_str_index PySem.F.type_str_index Tx.mt_idx1 (pv 0) (pv 3)) (fun _ _ => rfl))))))), ?_⟩
    have hal := ha.len
    refine ⟨⟨_, rfl⟩, _, rfl, _, rfl, fun D nD => ?_⟩
    refine lc_it walk_str (PvL H D (sV (tog S a b))) (pvl0 nD) (fun _ _ _ _ => trivial) (fun i x H1 H2 hi hP hY => ?_) (fun H1 hP => ?_)
    · obtain ⟨rfl, c, hc, rfl⟩ := hY
      have hc' := tx_at hc
      have hcS : c ∈ S := ha.mem c (List.mem_of_getElem? hc')
      have hlt := List.idxOf_lt_length_of_mem hcS
      refine ⟨rfl, _, rfl, _, rfl, ⟨_, rfl⟩, _, rfl, S, c, _, rfl, rfl, idx_at hcS, idx_first, _, _, _, rfl, rfl, tx_small (by omega), getD_at (by omega), pvl_snoc nD ?_ hP ?_⟩
      · rw [sV_len, tog_len]
        omega
      · refine sV_at ?_
        unfold tog
        rw [List.getElem?_map, hc']
        rfl
    · obtain ⟨s1, e1⟩ := pvl_end hP (by rw [sV_len, tog_len]; exact Nat.le_of_eq (tx_len a).symm)
      exact joinQ e1 (by rw [tog_len]; omega) (q _ s1)
/-! ### _law_then -/
abbrev N__law_then : List Str := ["_law_signs_here", "_law_one", "_law_other", "_law_k"]
theorem sc__law_then : FnScope N__law_then ["_law_signs_here", "_law_one", "_law_other"] (defScope s__law_then) :=
  ⟨rfl, rfl, rfl, by decide +kernel, rfl, by decide +kernel, by decide +kernel⟩
theorem ok__law_then (T : Txt K mg B) : FnOk P w K mg base CX0 (k + 1) B.f__law_then B.d__law_then ["_law_signs_here", "_law_one", "_law_other"] spTog := by
  refine T.F__law_then.ok sc__law_then (fun vs H Q E h => ?_) (fun cdv A outer s H vs Q E hr h => ?_)
  · obtain ⟨S, a, b, rfl, _⟩ := h
    rfl
  · obtain ⟨S, a, b, rfl, h4, ha, hb, q⟩ := h
    have nd := sc__law_then.nd
    refine ⟨_, (pss_one (ps_ret (pe_join pe_str (pe_lc (own := [("_law_k", 3)]) rfl nd (pi_range1 (by rfl) T.z_range (pa_cons (pe_callB call_len_str (by rfl) T.z_len (by decide +kernel) (pa_cons (pv 0) pa_nil)) pa_nil)) (blkOk_by (own := [("_law_k", 3)]) (N := N__law_then) (sc := defScope s__law_then) (by decide +kernel)) (fun _ _ _ _ _ => (pg_name (i := 3) nd rfl (.inl rfl))) (fun _ _ _ _ _ => pts_nil) (fun _ _ _ _ _ => (pe_ix ix_str (pv 2) (pe_m1 PySem.F.slot_str_index PySem.F.type_str_index Tx.mt_idx1 (pv 0) (pe_ix ix_str (pv 1) (pv 3) (fun _ _ => rfl))) (fun _ _ => rfl))))))), ?_⟩
    have hal := ha.len
    have hls : (tx S).length = S.length := tx_len S
    refine ⟨⟨_, rfl⟩, _, rfl, _, rfl, tx_small (by omega), _, rfl, by omega, by omega, fun D nD => ?_⟩
    refine lc_it walk_range (PvL H D (sV (tog S a b))) (pvl0 nD) (fun _ _ _ _ => trivial) (fun i x H1 H2 hi hP hY => ?_) (fun H1 hP => ?_)
    · obtain ⟨rfl, rfl⟩ := hY
      have hi' : i < S.length := by omega
      have hc' : a[i]? = some a[i] := List.getElem?_eq_getElem (by omega)
      have hcS : a[i] ∈ S := ha.mem _ (List.mem_of_getElem? hc')
      have hlt := List.idxOf_lt_length_of_mem hcS
      have e0 : (0 : Int) + (i : Int) = (i : Int) := by omega
      refine ⟨rfl, _, rfl, _, rfl, ⟨_, rfl⟩, _, rfl, _, rfl, _, _, a[i], rfl, rfl, tx_small (by omega), ?_, S, a[i], _, rfl, rfl, idx_at hcS, idx_first, _, _, _, rfl, rfl, tx_small (by omega), getD_at (by omega), pvl_snoc nD ?_ hP ?_⟩
      · rw [e0, tx_cps]
        exact atI_nat hc'
      · rw [sV_len, tog_len]
        omega
      · refine sV_at ?_
        unfold tog
        rw [List.getElem?_map, hc']
        rfl
    · obtain ⟨s1, e1⟩ := pvl_end hP (by rw [sV_len, tog_len]; omega)
      exact joinQ e1 (by rw [tog_len]; omega) (q _ s1)
end
end K33
set_option Elab.async false
set_option linter.all false
set_option maxRecDepth 100000
set_option maxHeartbeats 4000000
namespace K33
open PySem PySem.Spec PyProof.Rows L2 Fd Tx
open M33 hiding P
section
variable {P : Program} {w : World} {K : PySem.W.Frag} {mg : Str → Option Value} {base : Heap} {B : Fs} {k : Nat}
/-! ### power -/
def spPower : Sp := fun vs H Q _ => ∃ (S m : List Nat) (n : Nat), vs = [.str (tx S), .str (tx m), .int (n : Int)] ∧ Sg S ∧ IsMap S m ∧ ∀ H', Same H H' → Q (.str (tx (M33.P S m n))) H'
abbrev N_power : List Str := ["signs", "one", "times", "found", "left", "step"]
theorem sc_power : FnScope N_power ["signs", "one", "times"] (defScope s_power) :=
  ⟨rfl, rfl, rfl, by decide +kernel, rfl, by decide +kernel, by decide +kernel⟩
theorem ok_power (T : Txt K mg B) : FnOk P w K mg base CX0 (k + 2) B.f_power B.d_power ["signs", "one", "times"] spPower := by
  have G_together : FnOk P w K mg base CX0 (k + 1) B.f_together B.d_together ["signs", "one", "other"] spTog := ok_together T
  refine T.F_power.ok sc_power (fun vs H Q E h => ?_) (fun cdv A outer s H vs Q E hr h => ?_)
  · obtain ⟨S, m, n, rfl, _⟩ := h
    rfl
  · obtain ⟨S, m, n, rfl, hS, hm, q⟩ := h
    have nd := sc_power.nd
    refine ⟨_, (pss_cons (ps_par3 (i := 3) (j := 4) (l := 5) (by rfl) nd rfl rfl rfl (by decide) (by decide) (by decide) rfl rfl rfl (pa_cons (pv 0) (pa_cons (pv 2) (pa_cons (pv 1) pa_nil))) (by rfl))
      (pss_cons (ps_while PassesOwn.never (pt_cmpR op_gt (pv 4) pe_int (nomark _))
          (C8.pss_cut (ps_if (pt_cmpR op_eq (pe_op op_mod (pv 4) pe_int) pe_int (nomark _))
                (pss_one (ps_set (i := 3) nd rfl (.inl rfl) (pe_call G_together hr (by rfl) T.m_together T.F_together.kp T.b_together .nil pass0 (pa_cons (pv 0) (pa_cons (pv 3) (pa_cons (pv 5) pa_nil))))))
                pss_nil)
            (pss_cons (ps_set (i := 5) nd rfl (.inl rfl) (pe_call G_together hr (by rfl) T.m_together T.F_together.kp T.b_together .nil pass0 (pa_cons (pv 0) (pa_cons (pv 5) (pa_cons (pv 5) pa_nil)))))
            (pss_one (ps_set (i := 4) nd rfl (.inl rfl) (pe_op op_fdiv (pv 4) pe_int))))))
      (pss_one (ps_ret (pv 3))))), ?_⟩
    refine ⟨_, rfl, _, rfl, _, rfl, _, _, _, rfl, ?_⟩
    refine ⟨fun mm σ H' => ∃ u v left : Nat, left = mm ∧ u + v * left = n ∧ Same H H' ∧ σ = [some (.str (tx S)), some (.str (tx m)), some (.int (n : Int)), some (.str (tx (M33.P S m u))), some (.int (left : Int)), some (.str (tx (M33.P S m v)))], ⟨n, 0, 1, n, rfl, by omega, fun _ _ z => z, ?_⟩, ?_⟩
    · have e1 : M33.P S m 1 = m := tog_id hS.nd hm.len
      rw [e1]
      rfl
    · rintro mm σ H1 ⟨u, v, left, rfl, huv, s1, rfl⟩
      refine ⟨_, rfl, _, _, rfl, rfl, _, rfl, ite2 (fun c => ?_) (fun c => ?_)⟩
      · have hl : 0 < left := by simpa using c
        refine ⟨fun σ H' => ∃ u v left' : Nat, left' < left ∧ u + v * left' = n ∧ Same H H' ∧ σ = [some (.str (tx S)), some (.str (tx m)), some (.int (n : Int)), some (.str (tx (M33.P S m u))), some (.int (left' : Int)), some (.str (tx (M33.P S m v)))], ?_, ?_⟩
        · rintro σ' H' ⟨u', v', l', hlt, h1, h2, h3⟩
          exact ⟨l', hlt, u', v', l', rfl, h1, h2, h3⟩
        · refine ⟨fun σ H' => ∃ u' : Nat, u' + 2 * v * (left / 2) = n ∧ Same H H' ∧ σ = [some (.str (tx S)), some (.str (tx m)), some (.int (n : Int)), some (.str (tx (M33.P S m u'))), some (.int (left : Int)), some (.str (tx (M33.P S m v)))], ?_, ?_⟩
          · refine ⟨_, rfl, _, _, rfl, rfl, (show (0 : Int) < 2 by decide), rfl, _, rfl, ite2 (fun c2 => ?_) (fun c2 => ?_)⟩
            · have hodd : left % 2 = 1 := by
                have : (left : Int) % 2 = 1 := by simpa [eqV] using c2
                omega
              refine ⟨_, rfl, _, rfl, _, rfl, S, M33.P S m u, M33.P S m v, rfl, hS.len, hm.P u, (hm.P v).len, fun H2 s2 => ⟨u + v, ?_, s1.trans s2, ?_⟩⟩
              · have : left = 2 * (left / 2) + 1 := by omega
                rw [this, Nat.mul_add, Nat.mul_left_comm, ← Nat.mul_assoc] at huv
                omega
              · rw [P_add hS.nd hm]
                rfl
            · have hev : left % 2 = 0 := by
                have : ¬ ((left : Int) % 2 = 1) := by simpa [eqV] using c2
                omega
              refine ⟨u, ?_, s1, rfl⟩
              have : left = 2 * (left / 2) := by omega
              rw [this, Nat.mul_left_comm, ← Nat.mul_assoc] at huv
              exact huv
          · rintro σ2 H2 ⟨u', hu', s2, rfl⟩
            refine ⟨_, rfl, _, rfl, _, rfl, S, M33.P S m v, M33.P S m v, rfl, hS.len, hm.P v, (hm.P v).len, fun H3 s3 => ?_⟩
            refine ⟨_, rfl, _, _, rfl, rfl, ⟨by decide, by decide⟩, u', 2 * v, left / 2, Nat.div_lt_self hl (by decide), hu', s2.trans s3, ?_⟩
            rw [show 2 * v = v + v by omega, P_add hS.nd hm]
            have e2 : ((left / 2 : Nat) : Int) = (left : Int) / 2 := by omega
            rw [e2]
            rfl
      · have h0 : left = 0 := by simpa using c
        subst h0
        have e : u = n := by omega
        subst e
        exact ⟨_, rfl, q _ s1⟩
/-! ### powers -/
def pV (S m : List Nat) (L : Nat) : List V := (List.range L).map fun j => V.str (tx (M33.P S m j))
theorem pV_len (S m : List Nat) (L : Nat) : (pV S m L).length = L := by
  unfold pV
  rw [List.length_map, List.length_range]
theorem pV_at {S m : List Nat} {L j : Nat} (h : j < L) : (pV S m L)[j]? = some (.str (tx (M33.P S m j))) := by
  unfold pV
  rw [List.getElem?_map, List.getElem?_range h]
  rfl
theorem pV_at' {S m : List Nat} {L j : Nat} {x : V} (h : (pV S m L)[j]? = some x) : j < L ∧ x = .str (tx (M33.P S m j)) := by
  have hl : j < L := by
    have := (List.getElem?_eq_some_iff.mp h).1
    rwa [pV_len] at this
  rw [pV_at hl] at h
  exact ⟨hl, (Option.some.inj h).symm⟩
theorem pV_succ (S m : List Nat) (L : Nat) : pV S m (L + 1) = pV S m L ++ [.str (tx (M33.P S m L))] := by
  unfold pV
  rw [List.range_succ, List.map_append]
  rfl
theorem pV_flat (S m : List Nat) (L : Nat) : (pV S m L).all flatV = true := by
  refine List.all_eq_true.mpr fun x hx => ?_
  obtain ⟨j, _, rfl⟩ := List.mem_map.mp hx
  rfl
theorem eqs {a b : List Nat} : eqV (.str (tx a)) (.str (tx b)) = decide (a = b) := by
  show (tx a == tx b) = decide (a = b)
  by_cases h : a = b
  · rw [h, decide_eq_true rfl]
    exact beq_self_eq_true _
  · rw [decide_eq_false h, beq_eq_false_iff_ne]
    exact fun e => h (tx_inj e)
theorem pV_in {S m z : List Nat} {L : Nat} : inV (.str (tx z)) (pV S m L) = decide (∃ j, j < L ∧ M33.P S m j = z) := by
  rw [Bool.eq_iff_iff, decide_eq_true_iff]
  unfold inV
  rw [List.any_eq_true]
  constructor
  · rintro ⟨x, hx, e⟩
    obtain ⟨j, hj, rfl⟩ := List.mem_map.mp hx
    rw [eqs, decide_eq_true_iff] at e
    exact ⟨j, List.mem_range.mp hj, e⟩
  · rintro ⟨j, hj, e⟩
    refine ⟨_, List.mem_map.mpr ⟨j, List.mem_range.mpr hj, rfl⟩, ?_⟩
    rw [eqs, decide_eq_true_iff]
    exact e
def spPowers : Sp := fun vs H Q _ => ∃ (S m : List Nat), vs = [.str (tx S), .str (tx m)] ∧ Sg S ∧ IsMap S m ∧
  ∀ (L i : Nat) (l t : Addr) (H' : Hp), Cyc S m L i → L ≤ 256 → H l = none → H t = none → l ≠ t → Same H H' → H' l = some (.lst (pV S m L)) → H' t = some (.tup [.ref l, .int (i : Int)]) → Q (.ref t) H'
abbrev N_powers : List Str := ["signs", "one", "found", "here"]
theorem sc_powers : FnScope N_powers ["signs", "one"] (defScope s_powers) :=
  ⟨rfl, rfl, rfl, by decide +kernel, rfl, by decide +kernel, by decide +kernel⟩
theorem ok_powers (T : Txt K mg B) : FnOk P w K mg base CX0 (k + 2) B.f_powers B.d_powers ["signs", "one"] spPowers := by
  have G_together : FnOk P w K mg base CX0 (k + 1) B.f_together B.d_together ["signs", "one", "other"] spTog := ok_together T
  refine T.F_powers.ok sc_powers (fun vs H Q E h => ?_) (fun cdv A outer s H vs Q E hr h => ?_)
  · obtain ⟨S, m, rfl, _⟩ := h
    rfl
  · obtain ⟨S, m, rfl, hS, hm, q⟩ := h
    have nd := sc_powers.nd
    refine ⟨_, (pss_cons (ps_par (i := 2) (j := 3) (by rfl) nd rfl rfl (by decide) rfl rfl (pa_cons (pe_lst pa_nil) (pa_cons (pv 0) pa_nil)) (by rfl))
      (pss_cons (ps_while PassesOwn.never (pt_cmpR op_notIn_seq (pv 3) (pv 2) rfl)
          (pss_cons (ps_expr (pe_bm PySem.F.plainAttrs_list PySem.F.slot_list_append PySem.F.type_list_append mt_append (pv 2) (pa_cons (pv 3) pa_nil)))
            (pss_one (ps_set (i := 3) nd rfl (.inl rfl) (pe_call G_together hr (by rfl) T.m_together T.F_together.kp T.b_together .nil pass0 (pa_cons (pv 0) (pa_cons (pv 3) (pa_cons (pv 1) pa_nil))))))))
      (pss_one (ps_ret (pe_tup (pa_cons (pv 2) (pa_cons (pe_bm PySem.F.plainAttrs_list PySem.F.slot_list_index PySem.F.type_list_index mt_index (pv 2) (pa_cons (pv 3) pa_nil)) pa_nil))))))), ?_⟩
    refine ⟨Nat.zero_le _, fun l nl => ⟨_, rfl, _, _, rfl, ?_⟩⟩
    refine ⟨fun mm σ H' => ∃ n : Nat, mm = 256 - n ∧ n ≤ 256 ∧ (∀ i j, i < j → j < n → M33.P S m i ≠ M33.P S m j) ∧ Same H H' ∧ H' l = some (.lst (pV S m n)) ∧ σ = [some (.str (tx S)), some (.str (tx m)), some (.ref l), some (.str (tx (M33.P S m n)))],
      ⟨_, 0, rfl, Nat.zero_le _, fun i j _ h => absurd h (Nat.not_lt_zero _), same_new nl, upd_same, rfl⟩, ?_⟩
    rintro mm σ H1 ⟨n, rfl, hn, hne, s1, e1, rfl⟩
    refine ⟨_, rfl, _, rfl, l, _, rfl, .inl (.inl (.inl e1)), rfl, pV_flat _ _ _, _, rfl, ?_⟩
    rw [if_pos (show (true : Bool) = true from rfl), pV_in]
    by_cases hin : ∃ j, j < n ∧ M33.P S m j = M33.P S m n
    · rw [decide_eq_true hin]
      refine iteF ?_
      obtain ⟨j, hj, ej⟩ := hin
      have hc : Cyc S m n j := ⟨hj, ej.symm, hne⟩
      refine ⟨_, rfl, _, rfl, .inl ⟨rfl, _, SqL.of e1⟩, _, rfl, l, _, _, j, _, rfl, rfl, .inl (.inl e1), rfl, pV_flat _ _ _, pV_at hj, (by rw [eqs, decide_eq_true_iff]; exact ej), ?_, (by show 2 ≤ sizeLine; decide), fun t nt => ?_⟩
      · intro i z' hi hz
        obtain ⟨hi2, rfl⟩ := pV_at' hz
        rw [eqs, decide_eq_false_iff_not, ← ej]
        exact hne i j hi hj
      · exact q n j l t _ hc hn nl (s1.free nt) (ne_of_none e1 nt) (s1.trans (same_new nt)) (by rw [upd_ne (ne_of_none e1 nt)]; exact e1) upd_same
    · rw [decide_eq_false hin]
      refine iteT ?_
      have hne2 : ∀ i j, i < j → j < n + 1 → M33.P S m i ≠ M33.P S m j := fun i j h1 h2 e => by
        by_cases hj : j < n
        · exact hne i j h1 hj e
        · have : j = n := by omega
          subst this
          exact hin ⟨i, h1, e⟩
      have h256 := few hS.len hm hne2
      refine ⟨fun σ H' => ∃ n' : Nat, n' = n + 1 ∧ Same H H' ∧ H' l = some (.lst (pV S m n')) ∧ σ = [some (.str (tx S)), some (.str (tx m)), some (.ref l), some (.str (tx (M33.P S m n')))], ?_, ?_⟩
      · rintro σ' H' ⟨n', rfl, h1, h2, h3⟩
        exact ⟨256 - (n + 1), by omega, n + 1, rfl, h256, hne2, h1, h2, h3⟩
      · refine ⟨_, rfl, .inl ⟨rfl, _, SqL.of e1⟩, _, rfl, l, _, _, rfl, rfl, e1, (by rw [pV_len]; exact small1000 (by omega)), ?_⟩
        refine ⟨_, rfl, _, rfl, _, rfl, S, M33.P S m n, m, rfl, hS.len, hm.P n, hm.len, fun H2 s2 => ⟨n + 1, rfl, ?_, ?_, rfl⟩⟩
        · refine Same.trans (fun b o e => ?_) s2
          rw [upd_ne (ne_of_none e nl)]
          exact s1 b o e
        · refine s2 _ _ ?_
          rw [upd_same, pV_succ]
/-! ### _law_all_powers -/
abbrev N__law_all_powers : List Str := ["_law_signs_here", "_law_one", "_law_found", "_law_here"]
theorem sc__law_all_powers : FnScope N__law_all_powers ["_law_signs_here", "_law_one"] (defScope s__law_all_powers) :=
  ⟨rfl, rfl, rfl, by decide +kernel, rfl, by decide +kernel, by decide +kernel⟩
theorem ok__law_all_powers (T : Txt K mg B) : FnOk P w K mg base CX0 (k + 2) B.f__law_all_powers B.d__law_all_powers ["_law_signs_here", "_law_one"] spPowers := by
  have G__law_then : FnOk P w K mg base CX0 (k + 1) B.f__law_then B.d__law_then ["_law_signs_here", "_law_one", "_law_other"] spTog := ok__law_then T
  refine T.F__law_all_powers.ok sc__law_all_powers (fun vs H Q E h => ?_) (fun cdv A outer s H vs Q E hr h => ?_)
  · obtain ⟨S, m, rfl, _⟩ := h
    rfl
  · obtain ⟨S, m, rfl, hS, hm, q⟩ := h
    have nd := sc__law_all_powers.nd
    refine ⟨_, (pss_cons (ps_par (i := 2) (j := 3) (by rfl) nd rfl rfl (by decide) rfl rfl (pa_cons (pe_lst pa_nil) (pa_cons (pv 0) pa_nil)) (by rfl))
      (pss_cons (ps_while PassesOwn.never (pt_cmpR op_notIn_seq (pv 3) (pv 2) rfl)
          (pss_cons (ps_expr (pe_bm PySem.F.plainAttrs_list PySem.F.slot_list_append PySem.F.type_list_append mt_append (pv 2) (pa_cons (pv 3) pa_nil)))
            (pss_one (ps_set (i := 3) nd rfl (.inl rfl) (pe_call G__law_then hr (by rfl) T.m__law_then T.F__law_then.kp T.b__law_then .nil pass0 (pa_cons (pv 0) (pa_cons (pv 3) (pa_cons (pv 1) pa_nil))))))))
      (pss_one (ps_ret (pe_tup (pa_cons (pv 2) (pa_cons (pe_bm PySem.F.plainAttrs_list PySem.F.slot_list_index PySem.F.type_list_index mt_index (pv 2) (pa_cons (pv 3) pa_nil)) pa_nil))))))), ?_⟩
    refine ⟨Nat.zero_le _, fun l nl => ⟨_, rfl, _, _, rfl, ?_⟩⟩
    refine ⟨fun mm σ H' => ∃ n : Nat, mm = 256 - n ∧ n ≤ 256 ∧ (∀ i j, i < j → j < n → M33.P S m i ≠ M33.P S m j) ∧ Same H H' ∧ H' l = some (.lst (pV S m n)) ∧ σ = [some (.str (tx S)), some (.str (tx m)), some (.ref l), some (.str (tx (M33.P S m n)))],
      ⟨_, 0, rfl, Nat.zero_le _, fun i j _ h => absurd h (Nat.not_lt_zero _), same_new nl, upd_same, rfl⟩, ?_⟩
    rintro mm σ H1 ⟨n, rfl, hn, hne, s1, e1, rfl⟩
    refine ⟨_, rfl, _, rfl, l, _, rfl, .inl (.inl (.inl e1)), rfl, pV_flat _ _ _, _, rfl, ?_⟩
    rw [if_pos (show (true : Bool) = true from rfl), pV_in]
    by_cases hin : ∃ j, j < n ∧ M33.P S m j = M33.P S m n
    · rw [decide_eq_true hin]
      refine iteF ?_
      obtain ⟨j, hj, ej⟩ := hin
      have hc : Cyc S m n j := ⟨hj, ej.symm, hne⟩
      refine ⟨_, rfl, _, rfl, .inl ⟨rfl, _, SqL.of e1⟩, _, rfl, l, _, _, j, _, rfl, rfl, .inl (.inl e1), rfl, pV_flat _ _ _, pV_at hj, (by rw [eqs, decide_eq_true_iff]; exact ej), ?_, (by show 2 ≤ sizeLine; decide), fun t nt => ?_⟩
      · intro i z' hi hz
        obtain ⟨hi2, rfl⟩ := pV_at' hz
        rw [eqs, decide_eq_false_iff_not, ← ej]
        exact hne i j hi hj
      · exact q n j l t _ hc hn nl (s1.free nt) (ne_of_none e1 nt) (s1.trans (same_new nt)) (by rw [upd_ne (ne_of_none e1 nt)]; exact e1) upd_same
    · rw [decide_eq_false hin]
      refine iteT ?_
      have hne2 : ∀ i j, i < j → j < n + 1 → M33.P S m i ≠ M33.P S m j := fun i j h1 h2 e => by
        by_cases hj : j < n
        · exact hne i j h1 hj e
        · have : j = n := by omega
          subst this
          exact hin ⟨i, h1, e⟩
      have h256 := few hS.len hm hne2
      refine ⟨fun σ H' => ∃ n' : Nat, n' = n + 1 ∧ Same H H' ∧ H' l = some (.lst (pV S m n')) ∧ σ = [some (.str (tx S)), some (.str (tx m)), some (.ref l), some (.str (tx (M33.P S m n')))], ?_, ?_⟩
      · rintro σ' H' ⟨n', rfl, h1, h2, h3⟩
        exact ⟨256 - (n + 1), by omega, n + 1, rfl, h256, hne2, h1, h2, h3⟩
      · refine ⟨_, rfl, .inl ⟨rfl, _, SqL.of e1⟩, _, rfl, l, _, _, rfl, rfl, e1, (by rw [pV_len]; exact small1000 (by omega)), ?_⟩
        refine ⟨_, rfl, _, rfl, _, rfl, S, M33.P S m n, m, rfl, hS.len, hm.P n, hm.len, fun H2 s2 => ⟨n + 1, rfl, ?_, ?_, rfl⟩⟩
        · refine Same.trans (fun b o e => ?_) s2
          rw [upd_ne (ne_of_none e nl)]
          exact s1 b o e
        · refine s2 _ _ ?_
          rw [upd_same, pV_succ]
end
end K33
set_option Elab.async false
set_option linter.all false
set_option maxRecDepth 100000
set_option maxHeartbeats 4000000
namespace K33
open PySem PySem.Spec PyProof.Rows L2 Fd Tx
open M33 hiding P
theorem feed_upd {H : Hp} {d l D : Addr} {cs : List Int} {n : Nat} {o : HO} (F : FeedAt H d l cs n) (h1 : D ≠ d) (h2 : D ≠ l) : FeedAt (upd H D o) d l cs n := by
  obtain ⟨⟨a, f, ha, e⟩, q, z⟩ := F
  exact ⟨⟨a, f, ha, by rw [upd_ne h1.symm]; exact e⟩, by rw [upd_ne h2.symm]; exact q, z⟩
/-- a pair's parts in a block, its K said -/
theorem pgTK {X : Cx} {K : PySem.W.Frag} {n : Nat} {es : List Expr} {kk : Nat} {t : TGs} {pos : Pos} (hK : X.K = K) (hc : X.calm = true) (h : PGs X es t)
    (hn : (assignEach es X.env).length = n := by rfl) (hst : (assignEach es X.env).findIdx? (·.1) = none := by rfl) : PG X (.Tuple es kk pos) (gTup K n t) := by
  subst hK
  exact pg_tup hc h hn hst
/-- all but d is as it was, and D is new -/
theorem keep_put {d D : Addr} {H H' : Hp} {o : HO} (k : Keep d H H') (nD : H D = none) : Keep d H (upd H' D o) := fun b x e n => by
  rw [upd_ne (ne_of_none e nD)]
  exact k b x e n
section
variable {P : Program} {w : World} {K : PySem.W.Frag} {mg : Str → Option Value} {base : Heap} {B : Fs} {k : Nat}
/-! ### map_round -/
def spRound : Sp := fun vs H Q _ => ∃ (S m : List Nat), vs = [.str (tx S), .str (tx m)] ∧ Sg S ∧ IsMap S m ∧
  ∀ (L i : Nat) (t : Addr) (H' : Hp), Cyc S m L i → L ≤ 256 → H t = none → Same H H' → H' t = some (.tup [.int (i : Int), .int ((L : Int) - i)]) → Q (.ref t) H'
abbrev N_map_round : List Str := ["signs", "one", "found", "at"]
theorem sc_map_round : FnScope N_map_round ["signs", "one"] (defScope s_map_round) :=
  ⟨rfl, rfl, rfl, by decide +kernel, rfl, by decide +kernel, by decide +kernel⟩
theorem ok_map_round (T : Txt K mg B) : FnOk P w K mg base CX0 (k + 3) B.f_map_round B.d_map_round ["signs", "one"] spRound := by
  have G_powers : FnOk P w K mg base CX0 (k + 2) B.f_powers B.d_powers ["signs", "one"] spPowers := ok_powers T
  refine T.F_map_round.ok sc_map_round (fun vs H Q E h => ?_) (fun cdv A outer s H vs Q E hr h => ?_)
  · obtain ⟨S, m, rfl, _⟩ := h
    rfl
  · obtain ⟨S, m, rfl, hS, hm, q⟩ := h
    have nd := sc_map_round.nd
    refine ⟨_, (pss_cons (ps_asg (pe_call G_powers hr (by rfl) T.m_powers T.F_powers.kp T.b_powers .nil pass0 (pa_cons (pv 0) (pa_cons (pv 1) pa_nil))) (pg_tup rfl (pgs_cons (pg_name (i := 2) nd rfl (.inl rfl)) (pgs_cons (pg_name (i := 3) nd rfl (.inl rfl)) pgs_nil))))
      (pss_one (ps_ret (pe_tup (pa_cons (pv 3) (pa_cons (pe_op op_sub (pe_callB call_len_seq (by rfl) T.z_len (by decide +kernel) (pa_cons (pv 2) pa_nil)) (pv 3)) pa_nil)))))), ?_⟩
    refine ⟨_, rfl, _, rfl, S, m, rfl, hS, hm, fun L i l t H1 hc hL nl nt nlt s1 e1 e2 => ?_⟩
    refine ⟨t, _, rfl, .inl (.inl e2), rfl, _, _, rfl, _, _, rfl, rfl, ?_⟩
    refine ⟨_, rfl, _, rfl, l, _, rfl, .inl (.inl (.inl e1)), _, rfl, _, _, rfl, rfl, (by show 2 ≤ sizeLine; decide), fun u nu => ?_⟩
    rw [pV_len]
    exact q L i u _ hc hL (s1.free nu) (s1.trans (same_new nu)) upd_same
/-! ### times_to -/
def IsTimes (S m o : List Nat) (v : V) : Prop := ∃ L i, Cyc S m L i ∧ L ≤ 256 ∧ ((∃ j, j < L ∧ M33.P S m j = o ∧ v = .int (j : Int)) ∨ ((∀ j, j < L → M33.P S m j ≠ o) ∧ v = .non))
theorem IsTimes.same {S m o : List Nat} {v u : V} (h : IsTimes S m o v) (h' : IsTimes S m o u) : v = u := by
  obtain ⟨L, i, hc, _, h⟩ := h
  obtain ⟨L', i', hc', _, h'⟩ := h'
  obtain ⟨rfl, rfl⟩ := hc.same hc'
  rcases h with ⟨j, hj, e, rfl⟩ | ⟨h, rfl⟩
  · rcases h' with ⟨j', hj', e', rfl⟩ | ⟨h', rfl⟩
    · have : j = j' := by
        rcases Nat.lt_trichotomy j j' with q | q | q
        · exact absurd (e.trans e'.symm) (hc.ne j j' q hj')
        · exact q
        · exact absurd (e'.trans e.symm) (hc.ne j' j q hj)
      rw [this]
    · exact absurd e (h' j hj)
  · rcases h' with ⟨j', hj', e', rfl⟩ | ⟨h', rfl⟩
    · exact absurd e' (h j' hj')
    · rfl
def spTimes : Sp := fun vs H Q _ => ∃ (S m o : List Nat), vs = [.str (tx S), .str (tx m), .str (tx o)] ∧ Sg S ∧ IsMap S m ∧ ∀ (v : V) (H' : Hp), IsTimes S m o v → Same H H' → Q v H'
/-- found.index(other) if other in found else None -/
theorem times_core {S m o : List Nat} {L i : Nat} {H : Hp} {l : Addr} {Q : VK} (hc : Cyc S m L i) (hL : L ≤ 256) (e1 : H l = some (.lst (pV S m L))) (q : ∀ v, IsTimes S m o v → Q v H) :
    ∃ b, b = inV (.str (tx o)) (pV S m L) ∧ (b = true → ∃ (a : Addr) (ys : List V) (y : V) (j : Nat) (z : V), V.ref l = V.ref a ∧ [V.str (tx o)] = [y] ∧ SqL K H a ys ∧ flatV y = true ∧ ys.all flatV = true ∧ ys[j]? = some z ∧ eqV z y = true ∧
      (∀ (m : Nat) (z' : V), m < j → ys[m]? = some z' → eqV z' y = false) ∧ Q (.int (j : Nat)) H) ∧ (b = false → Q .non H) := by
  refine ⟨_, rfl, fun h => ?_, fun h => ?_⟩
  · rw [pV_in, decide_eq_true_iff] at h
    obtain ⟨j, hj, ej⟩ := h
    refine ⟨l, _, _, j, _, rfl, rfl, .inl (.inl e1), rfl, pV_flat _ _ _, pV_at hj, (by rw [eqs, decide_eq_true_iff]; exact ej), ?_, q _ ⟨L, i, hc, hL, .inl ⟨j, hj, ej, rfl⟩⟩⟩
    intro x z' hx hz
    obtain ⟨hi2, rfl⟩ := pV_at' hz
    rw [eqs, decide_eq_false_iff_not, ← ej]
    exact hc.ne x j hx hj
  · rw [pV_in, decide_eq_false_iff_not] at h
    exact q _ ⟨L, i, hc, hL, .inr ⟨fun j hj e => h ⟨j, hj, e⟩, rfl⟩⟩
abbrev N_times_to : List Str := ["signs", "one", "other", "found", "at"]
theorem sc_times_to : FnScope N_times_to ["signs", "one", "other"] (defScope s_times_to) :=
  ⟨rfl, rfl, rfl, by decide +kernel, rfl, by decide +kernel, by decide +kernel⟩
theorem ok_times_to (T : Txt K mg B) : FnOk P w K mg base CX0 (k + 3) B.f_times_to B.d_times_to ["signs", "one", "other"] spTimes := by
  have G_powers : FnOk P w K mg base CX0 (k + 2) B.f_powers B.d_powers ["signs", "one"] spPowers := ok_powers T
  refine T.F_times_to.ok sc_times_to (fun vs H Q E h => ?_) (fun cdv A outer s H vs Q E hr h => ?_)
  · obtain ⟨S, m, o, rfl, _⟩ := h
    rfl
  · obtain ⟨S, m, o, rfl, hS, hm, q⟩ := h
    have nd := sc_times_to.nd
    refine ⟨_, (pss_cons (ps_asg (pe_call G_powers hr (by rfl) T.m_powers T.F_powers.kp T.b_powers .nil pass0 (pa_cons (pv 0) (pa_cons (pv 1) pa_nil))) (pg_tup rfl (pgs_cons (pg_name (i := 3) nd rfl (.inl rfl)) (pgs_cons (pg_name (i := 4) nd rfl (.inl rfl)) pgs_nil))))
      (pss_one (ps_ret (pe_ifExp (pt_cmpR op_in_seq (pv 2) (pv 3) rfl) (pe_bm PySem.F.plainAttrs_list PySem.F.slot_list_index PySem.F.type_list_index mt_index (pv 3) (pa_cons (pv 2) pa_nil)) pe_non)))), ?_⟩
    refine ⟨_, rfl, _, rfl, S, m, rfl, hS, hm, fun L i l t H1 hc hL nl nt nlt s1 e1 e2 => ?_⟩
    refine ⟨t, _, rfl, .inl (.inl e2), rfl, _, _, rfl, _, _, rfl, rfl, ?_⟩
    obtain ⟨b, hb, hy, hn⟩ := times_core (K := K) (o := o) hc hL e1 (fun v hv => q v _ hv s1)
    refine ⟨_, rfl, _, rfl, l, _, rfl, .inl (.inl (.inl e1)), rfl, pV_flat _ _ _, _, rfl, ?_⟩
    rw [if_neg (show ¬ ((false : Bool) = true) from Bool.false_ne_true), ← hb]
    cases b with
    | true => exact iteT ⟨_, rfl, .inl ⟨rfl, _, SqL.of e1⟩, _, rfl, hy rfl⟩
    | false => exact iteF (hn rfl)
/-! ### is_one_to_one -/
def spOne : Sp := fun vs H Q _ => ∃ (S m : List Nat), vs = [.str (tx S), .str (tx m)] ∧ S.length ≤ 4 ∧ ∀ H', Same H H' → Q (.bl (S.all fun c => decide (c ∈ m))) H'
abbrev N_is_one_to_one : List Str := ["signs", "one", "sign"]
theorem sc_is_one_to_one : FnScope N_is_one_to_one ["signs", "one"] (defScope s_is_one_to_one) :=
  ⟨rfl, rfl, rfl, by decide +kernel, rfl, by decide +kernel, by decide +kernel⟩
theorem ok_is_one_to_one (T : Txt K mg B) : FnOk P w K mg base CX0 (k + 1) B.f_is_one_to_one B.d_is_one_to_one ["signs", "one"] spOne := by
  refine T.F_is_one_to_one.ok sc_is_one_to_one (fun vs H Q E h => ?_) (fun cdv A outer s H vs Q E hr h => ?_)
  · obtain ⟨S, m, rfl, _⟩ := h
    rfl
  · obtain ⟨S, m, rfl, h4, q⟩ := h
    have nd := sc_is_one_to_one.nd
    refine ⟨_, (pss_one (ps_ret (pe_callB (cr_all rfl) (by rfl) T.z_all (by decide +kernel) (pa_cons (pe_lc (own := [("sign", 2)]) rfl nd (pi_str (pv 0)) (blkOk_by (own := [("sign", 2)]) (N := N_is_one_to_one) (sc := defScope s_is_one_to_one) (by decide +kernel)) (fun _ _ _ _ _ => (pg_name (i := 2) nd rfl (.inl rfl))) (fun _ _ _ _ _ => pts_nil) (fun _ _ _ _ _ => (pe_cmpR op_in_sign (pv 2) (pv 1) rfl))) pa_nil)))), ?_⟩
    refine ⟨_, rfl, _, rfl, fun D nD => ?_⟩
    have hlen : ((S.map fun c => decide (c ∈ m)).map V.bl).length = S.length := by rw [List.length_map, List.length_map]
    refine lc_it walk_str (PvL H D ((S.map fun c => decide (c ∈ m)).map V.bl)) (pvl0 nD) (fun _ _ _ _ => trivial) (fun i x H1 H2 hi hP hY => ?_) (fun H1 hP => ?_)
    · obtain ⟨rfl, c, hc, rfl⟩ := hY
      have hc' := tx_at hc
      refine ⟨rfl, _, rfl, _, rfl, c, _, rfl, rfl, pvl_snoc nD (by omega) hP ?_⟩
      rw [List.map_map, List.getElem?_map, hc', tx_cps]
      rfl
    · obtain ⟨s1, e1⟩ := pvl_end hP (by rw [hlen]; exact Nat.le_of_eq (tx_len S).symm)
      refine ⟨D, _, rfl, .inl (.inl e1), ?_⟩
      rw [List.all_map]
      exact q _ s1
/-! ### sources -/
def PvF (H1 : Hp) (D : Addr) (f : Nat → List V) : Nat → Hp → Prop := fun i H => Same H1 H ∧ H D = some (.lst (f i))
theorem pvf_snoc {H1 H : Hp} {D : Addr} {f : Nat → List V} {i : Nat} {y : V} (nD : H1 D = none) (hl : (f i).length < 1000) (h : PvF H1 D f i H) (hy : f (i + 1) = f i ++ [y]) :
    ∃ acc, H D = some (.lst acc) ∧ acc.length < sizeLine ∧ PvF H1 D f (i + 1) (upd H D (.lst (acc ++ [y]))) := by
  refine ⟨_, h.2, small1000 (by omega), fun b o e => ?_, ?_⟩
  · rw [upd_ne (ne_of_none e nD)]
    exact h.1 b o e
  · rw [upd_same, hy]
theorem pvf_skip {H1 H : Hp} {D : Addr} {f : Nat → List V} {i : Nat} (h : PvF H1 D f i H) (hy : f (i + 1) = f i) : PvF H1 D f (i + 1) H := ⟨h.1, by rw [hy]; exact h.2⟩
theorem pvf_new {H1 H : Hp} {D T : Addr} {f : Nat → List V} {i : Nat} {o : HO} (h : PvF H1 D f i H) (nT : H T = none) : PvF H1 D f i (upd H T o) :=
  ⟨h.1.trans (same_new nT), by rw [upd_ne (ne_of_none h.2 nT)]; exact h.2⟩
def src (S m : List Nat) (c : Nat) (i : Nat) : List Nat := (List.range i).filterMap fun j => if m.getD j 0 = c then some (S.getD j 0) else none
theorem src_len (S m : List Nat) (c i : Nat) : (src S m c i).length ≤ i := by
  have := List.length_filterMap_le (fun j => if m.getD j 0 = c then some (S.getD j 0) else none) (List.range i)
  rwa [List.length_range] at this
theorem src_yes {S m : List Nat} {c i : Nat} (h : m.getD i 0 = c) : src S m c (i + 1) = src S m c i ++ [S.getD i 0] := by
  unfold src
  rw [List.range_succ, List.filterMap_append, List.filterMap_cons, List.filterMap_nil, if_pos h]
theorem src_no {S m : List Nat} {c i : Nat} (h : m.getD i 0 ≠ c) : src S m c (i + 1) = src S m c i := by
  unfold src
  rw [List.range_succ, List.filterMap_append, List.filterMap_cons, List.filterMap_nil, if_neg h, List.append_nil]
theorem sV_app (a b : List Nat) : sV (a ++ b) = sV a ++ sV b := List.map_append ..
theorem eqsg {a b : Nat} : eqV (.str (sg a)) (.str (sg b)) = decide (a = b) := by
  have := eqs (a := [a]) (b := [b])
  rw [show (.str (sg a) : V) = .str (tx [a]) from rfl, show (.str (sg b) : V) = .str (tx [b]) from rfl, this]
  simp
theorem sV_at' {cs : List Nat} {i : Nat} {x : V} (h : (sV cs)[i]? = some x) : ∃ c, cs[i]? = some c ∧ x = .str (sg c) := by
  unfold sV at h
  rw [List.getElem?_map] at h
  cases hc : cs[i]? with
  | none => rw [hc] at h; cases h
  | some c => rw [hc] at h; cases h; exact ⟨c, rfl, rfl⟩
theorem getD_of {cs : List Nat} {i c : Nat} (h : cs[i]? = some c) : cs.getD i 0 = c := by
  rw [List.getD_eq_getElem?_getD, h]
  rfl
theorem walk_ztx {bb : Bool} {a b : List Nat} (h : a.length = b.length) : Walk (Zs.ItZ bb K (.str (tx a)) (.str (tx b))) a.length (fun _ => True) (YPair (fun i => (sV a)[i]?) (fun i => (sV b)[i]?)) := by
  have ea : Zs.Src.at K = Zs.Src.at K := rfl
  have pa : ∀ H : Hp, (Zs.Src.str (tx a)).at K H (sV a) := fun H => (signsV_tx a).symm
  have pb : ∀ H : Hp, (Zs.Src.str (tx b)).at K H (sV b) := fun H => (signsV_tx b).symm
  refine ⟨fun i H hi _ => ⟨sV a, sV b, .str (sg a[i]), .str (sg (b[i]'(by omega))), pa H, pb H, sV_at (List.getElem?_eq_getElem hi), sV_at (List.getElem?_eq_getElem (by omega))⟩, fun H _ => ⟨sV a, sV b, pa H, pb H, ?_, ?_, ?_⟩, fun i H x H' hi _ y => ?_⟩
  · rw [sV_len]
    exact Nat.le_refl _
  · rw [sV_len]
    omega
  · rw [sV_len, sV_len]
    cases bb with
    | true => exact ⟨rfl, h⟩
    | false => exact .inl rfl
  · obtain ⟨T, x', y', h1, h2, h3, h4, h5⟩ := y
    exact ⟨T, x', y', h1, h2, h3, h4 _ (pa H), h5 _ (pb H)⟩
def spSrc : Sp := fun vs H Q _ => ∃ (S m : List Nat) (c : Nat), vs = [.str (tx S), .str (tx m), .str (sg c)] ∧ S.length ≤ 4 ∧ m.length = S.length ∧ ∀ H', Same H H' → Q (.str (tx (src S m c S.length))) H'
abbrev N_sources : List Str := ["signs", "one", "sign", "own", "goal"]
theorem sc_sources : FnScope N_sources ["signs", "one", "sign"] (defScope s_sources) :=
  ⟨rfl, rfl, rfl, by decide +kernel, rfl, by decide +kernel, by decide +kernel⟩
theorem ok_sources (T : Txt K mg B) : FnOk P w K mg base CX0 (k + 1) B.f_sources B.d_sources ["signs", "one", "sign"] spSrc := by
  refine T.F_sources.ok sc_sources (fun vs H Q E h => ?_) (fun cdv A outer s H vs Q E hr h => ?_)
  · obtain ⟨S, m, c, rfl, _⟩ := h
    rfl
  · obtain ⟨S, m, c, rfl, h4, hl, q⟩ := h
    have nd := sc_sources.nd
    refine ⟨_, (pss_one (ps_ret (pe_join pe_str (pe_lc (own := [("own", 3), ("goal", 4)]) rfl nd (Zs.pi_zip2 (by rfl) T.z_zip (pa_cons (pv 0) (pa_cons (pv 1) pa_nil))) (blkOk_by (own := [("own", 3), ("goal", 4)]) (N := N_sources) (sc := defScope s_sources) (by decide +kernel)) (fun _ _ _ _ _ => (pgTK (K := K) (n := 2) rfl rfl (pgs_cons (pg_name (i := 3) nd rfl (.inl rfl) (.inr rfl)) (pgs_cons (pg_name (i := 4) nd rfl (.inl rfl) (.inr rfl)) pgs_nil)))) (fun _ _ _ _ _ => (pts_one (pt_cmpR op_eq (pv 4) (pv 2) (nomark _)))) (fun _ _ _ _ _ => (pv 3)))))), ?_⟩
    refine ⟨⟨_, rfl⟩, _, rfl, _, rfl, .str (tx S), .str (tx m), _, _, rfl, rfl, rfl, fun D nD => ?_⟩
    refine lc_it (walk_ztx hl.symm) (PvF H D fun i => sV (src S m c i)) ⟨same_new nD, upd_same⟩ (fun _ _ _ _ => trivial) (fun i x H1 H2 hi hP hY => ?_) (fun H1 hP => ?_)
    · obtain ⟨U, x1, x2, rfl, nU, rfl, h1, h2⟩ := hY
      obtain ⟨o, ho, rfl⟩ := sV_at' h1
      obtain ⟨g, hg, rfl⟩ := sV_at' h2
      have sl := src_len S m c i
      refine ⟨U, _, rfl, .inl (.inl upd_same), rfl, _, _, rfl, _, _, rfl, rfl, rfl, _, rfl, _, rfl, rfl, _, rfl, ?_⟩
      by_cases e : g = c
      · refine iteY (by rw [e]) ⟨_, rfl, pvf_snoc nD (by rw [sV_len]; omega) (pvf_new hP nU) ?_⟩
        show sV (src S m c (i + 1)) = _
        rw [src_yes (by rw [getD_of hg]; exact e), sV_app, getD_of ho]
        rfl
      · refine iteN (fun h => e (sg_inj (V.str.inj h))) (pvf_skip (pvf_new hP nU) ?_)
        show sV (src S m c (i + 1)) = _
        rw [src_no (by rw [getD_of hg]; exact e)]
    · have sl := src_len S m c S.length
      exact joinQ hP.2 (by omega) (q _ hP.1)
end
end K33
set_option Elab.async false
set_option linter.all false
set_option maxRecDepth 100000
set_option maxHeartbeats 4000000
namespace K33
open PySem PySem.Spec PyProof.Rows L2 Fd Tx
open M33 hiding P
abbrev abc : Str := "abcdefghijklmnopqrstuvwxyz"
theorem abc_at : ∀ i : Nat, i < 26 → abc.cps.toList[i]? = some (97 + i) := by decide +kernel
theorem abc_len : abc.length = 26 := by decide +kernel
theorem perm_signs {ys : List Str} {cs : List Nat} (h : ys.Perm (cs.map sg)) : ∃ cs' : List Nat, ys = cs'.map sg ∧ cs'.Perm cs := by
  refine ⟨ys.map fun s => s.cps.toList.headD 0, ?_, ?_⟩
  · rw [List.map_map]
    conv => lhs; rw [← List.map_id ys]
    refine List.map_congr_left fun s hs => ?_
    obtain ⟨c, _, rfl⟩ := List.mem_map.mp (h.subset hs)
    rfl
  · have := h.map fun s : Str => s.cps.toList.headD 0
    rw [List.map_map] at this
    have e : (cs.map ((fun s : Str => s.cps.toList.headD 0) ∘ sg)) = cs := by
      conv => rhs; rw [← List.map_id cs]
      rfl
    rwa [e] at this
def lets (first step many : Nat) : List Nat := (List.range many).map fun j => 97 + (first + step * j) % 26
theorem lets_len (f s n : Nat) : (lets f s n).length = n := by
  unfold lets
  rw [List.length_map, List.length_range]
theorem lets_sg {f s n : Nat} (hs : s = 1 ∨ s = 3 ∨ s = 5 ∨ s = 7 ∨ s = 9 ∨ s = 11) (h1 : 1 ≤ n) (h4 : n ≤ 4) {S : List Nat} (h : S.Perm (lets f s n)) : Sg S := by
  refine ⟨h.nodup_iff.mpr ?_, by rw [h.length_eq, lets_len]; exact h1, by rw [h.length_eq, lets_len]; exact h4, fun c hc => ?_⟩
  · unfold lets
    refine List.pairwise_map.mpr (List.Pairwise.imp_of_mem (R := (· < ·)) ?_ List.pairwise_lt_range)
    intro a b ha hb hab
    have hb' := List.mem_range.mp hb
    have hb4 : b = 1 ∨ b = 2 ∨ b = 3 := by omega
    have ha4 : a = 0 ∨ a = 1 ∨ a = 2 := by omega
    rcases hs with rfl | rfl | rfl | rfl | rfl | rfl <;> rcases hb4 with rfl | rfl | rfl <;> rcases ha4 with rfl | rfl | rfl <;> omega
  · obtain ⟨j, _, rfl⟩ := List.mem_map.mp (h.subset hc)
    omega
section
variable {P : Program} {w : World} {K : PySem.W.Frag} {mg : Str → Option Value} {base : Heap} {B : Fs} {k : Nat}
/-! ### _law_signs -/
def spSigns : Sp := fun vs H Q _ => ∃ (d l : Addr) (cs : List Int) (n many : Nat), vs = [.ref d, .int (many : Int)] ∧ FeedAt H d l cs n ∧ n + 10 ≤ 1000000 ∧ 1 ≤ many ∧ many ≤ 4 ∧
  ∀ (S : List Nat) (H' : Hp), Sg S → FeedAt H' d l cs (n + 2) → Keep d H H' → Q (.str (tx S)) H'
abbrev N__law_signs : List Str := ["_law_feed_here", "_law_many", "_law_letters", "_law_first", "_law_step", "_law_k"]
theorem sc__law_signs : FnScope N__law_signs ["_law_feed_here", "_law_many"] (defScope s__law_signs) :=
  ⟨rfl, rfl, rfl, by decide +kernel, rfl, by decide +kernel, by decide +kernel⟩
theorem ok__law_signs (T : Txt K mg B) : FnOk P w K mg base CX0 (k + 3) B.f__law_signs B.d__law_signs ["_law_feed_here", "_law_many"] spSigns := by
  have G__law_draw : FnOk P w K mg base CX0 (k + 2) B.f__law_draw B.d__law_draw ["_law_feed_here", "_law_many"] spDraw := ok__law_draw T
  have G__law_pick : FnOk P w K mg base CX0 (k + 2) B.f__law_pick B.d__law_pick ["_law_feed_here", "_law_some"] (spPickS K) := ok__law_pick T
  refine T.F__law_signs.ok sc__law_signs (fun vs H Q E h => ?_) (fun cdv A outer s H vs Q E hr h => ?_)
  · obtain ⟨d, l, cs, n, many, rfl, _⟩ := h
    rfl
  · obtain ⟨d, l, cs, n, many, rfl, F, hn, hm1, hm4, q⟩ := h
    have nd := sc__law_signs.nd
    refine ⟨_, (pss_cons (ps_asg (pe_tup (pa_cons pe_str (pa_cons (pe_call G__law_draw hr (by rfl) T.m__law_draw T.F__law_draw.kp T.b__law_draw .nil pass0 (pa_cons (pv 0) (pa_cons pe_int pa_nil))) (pa_cons (pe_call G__law_pick hr (by rfl) T.m__law_pick T.F__law_pick.kp T.b__law_pick .nil pass0 (pa_cons (pv 0) (pa_cons (pe_lst (pa_cons pe_int (pa_cons pe_int (pa_cons pe_int (pa_cons pe_int (pa_cons pe_int (pa_cons pe_int pa_nil))))))) pa_nil))) pa_nil)))) (pg_tup rfl (pgs_cons (pg_name (i := 2) nd rfl (.inr rfl)) (pgs_cons (pg_name (i := 3) nd rfl (.inr rfl)) (pgs_cons (pg_name (i := 4) nd rfl (.inr rfl)) pgs_nil)))))
      (pss_one (ps_ret (pe_join pe_str (pe_callB cr_sortedS (by rfl) T.z_sorted (by decide +kernel) (pa_cons (pe_lc (own := [("_law_k", 5)]) rfl nd (pi_range1 (by rfl) T.z_range (pa_cons (pv 1) pa_nil)) (blkOk_by (own := [("_law_k", 5)]) (N := N__law_signs) (sc := defScope s__law_signs) (by decide +kernel)) (fun _ _ _ _ _ => (pg_name (i := 5) nd rfl (.inl rfl))) (fun _ _ _ _ _ => pts_nil) (fun _ _ _ _ _ => (pe_ix ix_str (pv 2) (pe_op op_mod (pe_op op_add (pv 3) (pe_op op_mul (pv 4) (pv 5))) pe_int) (fun _ _ => rfl)))) pa_nil)))))), ?_⟩
    refine ⟨_, rfl, d, l, cs, n, _, rfl, F, by omega, by decide, by decide, fun first H1 hf F1 k1 => ?_⟩
    refine ⟨_, rfl, (by show 6 ≤ sizeLine; decide), fun p np => ?_⟩
    refine ⟨d, l, cs, _, .lst p, _, rfl, F1.same (same_new np), by omega, .inl (.inl upd_same), (by show 0 < 6; decide), (by show 6 < 1000; decide), fun st H2 hst F2 k2 => ?_⟩
    have k2' : Keep d H H2 := (k1.trans (keep_new np)).trans k2
    obtain ⟨step, rfl, hst'⟩ : ∃ s : Nat, st = .int (s : Int) ∧ (s = 1 ∨ s = 3 ∨ s = 5 ∨ s = 7 ∨ s = 9 ∨ s = 11) := by
      have : st = .int 1 ∨ st = .int 3 ∨ st = .int 5 ∨ st = .int 7 ∨ st = .int 9 ∨ st = .int 11 := by simpa using hst
      rcases this with h | h | h | h | h | h
      · exact ⟨1, h, by omega⟩
      · exact ⟨3, h, by omega⟩
      · exact ⟨5, h, by omega⟩
      · exact ⟨7, h, by omega⟩
      · exact ⟨9, h, by omega⟩
      · exact ⟨11, h, by omega⟩
    refine ⟨(by show 3 ≤ sizeLine; decide), fun t nt => ?_⟩
    refine ⟨t, _, rfl, .inl (.inl upd_same), rfl, _, _, rfl, _, _, rfl, _, _, rfl, rfl, ?_⟩
    have F3 : FeedAt (upd H2 t (.tup [.str abc, .int (first : Int), .int (step : Int)])) d l cs (n + 2) := F2.same (same_new nt)
    have k3 : Keep d H (upd H2 t (.tup [.str abc, .int (first : Int), .int (step : Int)])) := k2'.trans (keep_new nt)
    have e0 : abc = ("abcdefghijklmnopqrstuvwxyz" : Str) := rfl
    rw [← e0]
    generalize upd H2 t (.tup [.str abc, .int (first : Int), .int (step : Int)]) = H3 at F3 k3 ⊢
    refine ⟨⟨_, rfl⟩, _, rfl, _, rfl, by omega, by omega, fun D nD => ?_⟩
    refine lc_it walk_range (PvL H3 D (sV (lets first step many))) (pvl0 nD) (fun _ _ _ _ => trivial) (fun i x H4 H5 hi hP hY => ?_) (fun H4 hP => ?_)
    · obtain ⟨rfl, rfl⟩ := hY
      have hi' : i < many := by omega
      have ei : (first : Int) + (step : Int) * ((0 : Int) + (i : Int)) = ((first + step * i : Nat) : Int) := by
        rw [Int.natCast_add, Int.natCast_mul, Int.zero_add]
      refine ⟨rfl, _, rfl, _, rfl, _, rfl, _, rfl, _, _, rfl, rfl, .inl ⟨?_, ?_⟩, _, _, rfl, rfl, _, _, rfl, rfl, (show (0 : Int) < 26 by decide), _, _, 97 + (first + step * i) % 26, rfl, rfl, (by rw [abc_len]; decide), ?_, pvl_snoc nD ?_ hP ?_⟩
      · show -(2 ^ 64) < (step : Int)
        omega
      · show (step : Int) < 2 ^ 64
        omega
      · rw [ei, show ((first + step * i : Nat) : Int) % 26 = (((first + step * i) % 26 : Nat) : Int) by omega]
        exact atI_nat (abc_at _ (Nat.mod_lt _ (by decide)))
      · rw [sV_len, lets_len]
        omega
      · refine sV_at ?_
        unfold lets
        rw [List.getElem?_map, List.getElem?_range hi']
        rfl
    · obtain ⟨s1, e1⟩ := pvl_end hP (by rw [sV_len, lets_len]; omega)
      refine ⟨D, (lets first step many).map sg, rfl, .inl (.inl ?_), (by rw [List.length_map, lets_len]; omega), fun ys p hp _ np => ?_⟩
      · rw [e1, List.map_map]
        rfl
      · obtain ⟨S, rfl, hS⟩ := perm_signs hp
        have hsg := lets_sg hst' hm1 hm4 hS
        refine joinQ (cs := S) ?_ (by have := hsg.len; omega) (q S _ hsg ((F3.same s1).same (same_new np)) ((k3.trans (Keep.of_same s1)).trans (keep_new np)))
        rw [upd_same, List.map_map]
        rfl
/-! ### _law_mixed -/
def spMap (a : Nat) : Sp := fun vs H Q _ => ∃ (d l : Addr) (cs : List Int) (n : Nat) (S : List Nat), vs = [.ref d, .str (tx S)] ∧ FeedAt H d l cs n ∧ n + 10 * a ≤ 1000000 ∧ Sg S ∧
  ∀ (m : List Nat) (H' : Hp), IsMap S m → FeedAt H' d l cs (n + a) → Keep d H H' → Q (.str (tx m)) H'
abbrev N__law_mixed : List Str := ["_law_feed_here", "_law_signs_here", "_law_left", "_law_found", "_law_k"]
theorem sc__law_mixed : FnScope N__law_mixed ["_law_feed_here", "_law_signs_here"] (defScope s__law_mixed) :=
  ⟨rfl, rfl, rfl, by decide +kernel, rfl, by decide +kernel, by decide +kernel⟩
theorem ok__law_mixed (T : Txt K mg B) : FnOk P w K mg base CX0 (k + 2) B.f__law_mixed B.d__law_mixed ["_law_feed_here", "_law_signs_here"] (spMap 4) := by
  have G__law_draw : FnOk P w K mg base CX0 (k + 1) B.f__law_draw B.d__law_draw ["_law_feed_here", "_law_many"] spDraw := ok__law_draw T
  refine T.F__law_mixed.ok sc__law_mixed (fun vs H Q E h => ?_) (fun cdv A outer s H vs Q E hr h => ?_)
  · obtain ⟨d, l, cs, n, S, rfl, _⟩ := h
    rfl
  · obtain ⟨d, l, cs, n, S, rfl, F, hn, hS, q⟩ := h
    have nd := sc__law_mixed.nd
    refine ⟨_, (pss_cons (ps_par (i := 2) (j := 3) (by rfl) nd rfl rfl (by decide) rfl rfl (pa_cons (pe_callTy (Tx.call_list_tx rfl) (by rfl) T.z_list (by decide +kernel) (pa_cons (pv 1) pa_nil)) (pa_cons pe_str pa_nil)) (by rfl))
      (pss_cons (ps_for PassesOwn.never rfl (pi_range1 (by rfl) T.z_range (pa_cons (pe_callB call_len_str (by rfl) T.z_len (by decide +kernel) (pa_cons (pv 1) pa_nil)) pa_nil)) (pg_name (i := 4) nd rfl (.inl rfl))
          (pss_one (ps_set (i := 3) nd rfl (.inl rfl) (pe_op op_add_str (pv 3) (pe_bm PySem.F.plainAttrs_list PySem.F.slot_list_pop PySem.F.type_list_pop mt_popAt (pv 2) (pa_cons (pe_call G__law_draw hr (by rfl) T.m__law_draw T.F__law_draw.kp T.b__law_draw .nil pass0 (pa_cons (pv 0) (pa_cons (pe_callB call_len_seq (by rfl) T.z_len (by decide +kernel) (pa_cons (pv 2) pa_nil)) pa_nil))) pa_nil))))))
      (pss_one (ps_ret (pv 3))))), ?_⟩
    have h4 := hS.len
    have hls : (tx S).length = S.length := tx_len S
    refine ⟨_, rfl, S, rfl, by omega, fun D nD => ⟨_, _, rfl, ?_⟩⟩
    have hDd : D ≠ d := ((F.new nD).1).symm
    have hDl : D ≠ l := ((F.new nD).2).symm
    refine ⟨_, rfl, _, rfl, tx_small (b := S) (by omega), _, rfl, by omega, by omega, ?_⟩
    refine for_it walk_range (fun i σ H' => FeedAt H' d l cs (n + i) ∧ Keep d H H' ∧ ∃ (left f : List Nat) (y4 : Option V), left.length = S.length - i ∧ f.length = i ∧ (∀ c ∈ left, c ∈ S) ∧ (∀ c ∈ f, c ∈ S) ∧ H' D = some (.lst (sV left)) ∧
        σ = [some (.ref d), some (.str (tx S)), some (.ref D), some (.str (tx f)), y4])
      ⟨F.same (same_new nD), keep_new nD, S, [], none, rfl, rfl, fun _ h => h, fun _ h => (by cases h), upd_same, ?_⟩ (fun _ _ _ _ _ => trivial) ?_ ?_
    · rw [← empty_tx]
      rfl
    · rintro i x σ H1 H2 hi ⟨F1, k1, left, f, y4, hll, hfl, hleft, hf, eD, rfl⟩ ⟨rfl, rfl⟩
      have hi' : i < S.length := by omega
      refine ⟨_, rfl, _, rfl, .inl ⟨rfl, _, SqL.of eD⟩, _, rfl, _, rfl, D, _, rfl, .inl (.inl (.inl eD)), ?_⟩
      refine ⟨d, l, cs, _, _, rfl, F1, by omega, (by rw [sV_len]; omega), (by rw [sV_len]; omega), fun r H3 hr3 F3 k3 => ?_⟩
      rw [sV_len] at hr3
      have hr' : r < left.length := by omega
      have eD3 := F1.lst k3 eD
      refine ⟨D, _, _, r, _, rfl, rfl, eD3, by omega, by omega, ?_, sV_at (List.getElem?_eq_getElem hr'), _, _, rfl, rfl, ?_, ?_⟩
      · unfold seqIndex?
        rw [sV_len]
        simp
        omega
      · rw [tx_len]
        show f.length + 1 ≤ _
        have := small1000 (n := f.length + 1) (by omega)
        omega
      · refine ⟨(feed_upd F3 hDd hDl).mono (by omega), keep_put (k1.trans k3) nD, left.eraseIdx r, f ++ [left[r]], some (.int (0 + (i : Int))), ?_, ?_, ?_, ?_, ?_, ?_⟩
        · rw [List.length_eraseIdx, if_pos hr']
          omega
        · rw [List.length_append, hfl]
          rfl
        · exact fun c hc => hleft c (List.mem_of_mem_eraseIdx hc)
        · intro c hc
          rcases List.mem_append.mp hc with h | h
          · exact hf c h
          · have e : c = left[r] := by simpa using h
            rw [e]
            exact hleft _ (List.getElem_mem hr')
        · rw [upd_same]
          unfold sV
          rw [List.eraseIdx_eq_take_drop_succ, List.eraseIdx_eq_take_drop_succ, List.map_append, List.map_take, List.map_drop]
        · rw [← tx_app]
          rfl
    · rintro σ H1 ⟨F1, k1, left, f, y4, hll, hfl, hleft, hf, eD, rfl⟩
      exact ⟨_, rfl, q f H1 ⟨by omega, hf⟩ (F1.mono (by omega)) k1⟩
/-! ### _law_any_map -/
theorem sV_mem {cs : List Nat} {x : V} (h : x ∈ sV cs) : ∃ c, c ∈ cs ∧ x = .str (sg c) := by
  obtain ⟨c, hc, e⟩ := List.mem_map.mp h
  exact ⟨c, hc, e.symm⟩
abbrev N__law_any_map : List Str := ["_law_feed_here", "_law_signs_here", "_law_way", "_law_k"]
theorem sc__law_any_map : FnScope N__law_any_map ["_law_feed_here", "_law_signs_here"] (defScope s__law_any_map) :=
  ⟨rfl, rfl, rfl, by decide +kernel, rfl, by decide +kernel, by decide +kernel⟩
theorem ok__law_any_map (T : Txt K mg B) : FnOk P w K mg base CX0 (k + 3) B.f__law_any_map B.d__law_any_map ["_law_feed_here", "_law_signs_here"] (spMap 5) := by
  have G__law_draw : FnOk P w K mg base CX0 (k + 2) B.f__law_draw B.d__law_draw ["_law_feed_here", "_law_many"] spDraw := ok__law_draw T
  have G__law_pick : FnOk P w K mg base CX0 (k + 2) B.f__law_pick B.d__law_pick ["_law_feed_here", "_law_some"] (spPickS K) := ok__law_pick T
  have G__law_mixed : FnOk P w K mg base CX0 (k + 2) B.f__law_mixed B.d__law_mixed ["_law_feed_here", "_law_signs_here"] (spMap 4) := ok__law_mixed T
  refine T.F__law_any_map.ok sc__law_any_map (fun vs H Q E h => ?_) (fun cdv A outer s H vs Q E hr h => ?_)
  · obtain ⟨d, l, cs, n, S, rfl, _⟩ := h
    rfl
  · obtain ⟨d, l, cs, n, S, rfl, F, hn, hS, q⟩ := h
    have nd := sc__law_any_map.nd
    refine ⟨_, (pss_cons (ps_set (i := 2) nd rfl (.inl rfl) (pe_call G__law_draw hr (by rfl) T.m__law_draw T.F__law_draw.kp T.b__law_draw .nil pass0 (pa_cons (pv 0) (pa_cons pe_int pa_nil))))
      (pss_cons (ps_if (pt_cmpR op_eq (pv 2) pe_int (nomark _))
          (pss_one (ps_ret (pe_call G__law_mixed hr (by rfl) T.m__law_mixed T.F__law_mixed.kp T.b__law_mixed .nil pass0 (pa_cons (pv 0) (pa_cons (pv 1) pa_nil)))))
          pss_nil)
      (pss_cons (ps_if (pt_cmpR op_eq (pv 2) pe_int (nomark _))
          (pss_one (ps_ret (pe_op Tx.op_mul_tx (pe_call G__law_pick hr (by rfl) T.m__law_pick T.F__law_pick.kp T.b__law_pick .nil pass0 (pa_cons (pv 0) (pa_cons (pv 1) pa_nil))) (pe_callB call_len_str (by rfl) T.z_len (by decide +kernel) (pa_cons (pv 1) pa_nil)))))
          pss_nil)
      (pss_one (ps_ret (pe_join pe_str (pe_lc (own := [("_law_k", 3)]) rfl nd (pi_range1 (by rfl) T.z_range (pa_cons (pe_callB call_len_str (by rfl) T.z_len (by decide +kernel) (pa_cons (pv 1) pa_nil)) pa_nil)) (blkOk_by (own := [("_law_k", 3)]) (N := N__law_any_map) (sc := defScope s__law_any_map) (by decide +kernel)) (fun _ _ _ _ _ => (pg_name (i := 3) nd rfl (.inl rfl))) (fun _ _ _ _ _ => pts_nil) (fun _ _ _ _ _ => (pe_call G__law_pick hr (by rfl) T.m__law_pick T.F__law_pick.kp T.b__law_pick .nil pass0 (pa_cons (pv 0) (pa_cons (pv 1) pa_nil))))))))))), ?_⟩
    have h4 := hS.len
    have h1 := hS.pos
    have hls : (tx S).length = S.length := tx_len S
    have hsrc : ∀ H : Hp, (Zs.Src.str (tx S)).at K H (sV S) := fun H => (signsV_tx S).symm
    refine ⟨_, rfl, d, l, cs, n, _, rfl, F, by omega, by decide, by decide, fun way H1 hw F1 k1 => ?_⟩
    refine ⟨_, rfl, rfl, _, rfl, ite2 (fun c => ?_) (fun c => ?_)⟩
    · refine ⟨_, rfl, _, rfl, d, l, cs, _, S, rfl, F1, by omega, hS, fun m H2 hm F2 k2 => ?_⟩
      exact q m H2 hm (F2.mono (by omega)) (k1.trans k2)
    · refine ⟨_, rfl, rfl, _, rfl, ite2 (fun c => ?_) (fun c => ?_)⟩
      · refine ⟨_, rfl, _, rfl, d, l, cs, _, .str (tx S), sV S, rfl, F1, by omega, hsrc _, (by rw [sV_len]; omega), (by rw [sV_len]; omega), fun x H2 hx F2 k2 => ?_⟩
        obtain ⟨c, hc, rfl⟩ := sV_mem hx
        refine ⟨_, rfl, _, rfl, tx_small (b := S) (by omega), c, S.length, rfl, (by rw [hls]), h1, by omega, ?_⟩
        exact q _ H2 ⟨List.length_replicate, fun c' hc' => by rw [List.eq_of_mem_replicate hc']; exact hc⟩ (F2.mono (by omega)) (k1.trans k2)
      · refine ⟨⟨_, rfl⟩, _, rfl, _, rfl, tx_small (b := S) (by omega), _, rfl, by omega, by omega, fun D nD => ?_⟩
        have hDd : D ≠ d := ((F1.new nD).1).symm
        have hDl : D ≠ l := ((F1.new nD).2).symm
        refine lc_it walk_range (fun i H' => FeedAt H' d l cs (n + 1 + i) ∧ Keep d H1 H' ∧ ∃ m : List Nat, m.length = i ∧ (∀ c ∈ m, c ∈ S) ∧ H' D = some (.lst (sV m)))
          ⟨F1.same (same_new nD), keep_new nD, [], rfl, fun _ h => (by cases h), upd_same⟩ (fun _ _ _ _ => trivial) (fun i x H2 H3 hi hP hY => ?_) (fun H2 hP => ?_)
        · obtain ⟨rfl, rfl⟩ := hY
          obtain ⟨F2, k2, m, hml, hm, eD⟩ := hP
          have hi' : i < S.length := by omega
          refine ⟨rfl, _, rfl, _, rfl, d, l, cs, _, .str (tx S), sV S, rfl, F2, by omega, hsrc _, (by rw [sV_len]; omega), (by rw [sV_len]; omega), fun x H4 hx F4 k4 => ?_⟩
          obtain ⟨c, hc, rfl⟩ := sV_mem hx
          refine ⟨_, F2.lst k4 eD, (by rw [sV_len]; exact small1000 (by omega)), (feed_upd F4 hDd hDl).mono (by omega), keep_put (k2.trans k4) nD, m ++ [c], ?_, ?_, ?_⟩
          · rw [List.length_append, hml]
            rfl
          · intro c' hc'
            rcases List.mem_append.mp hc' with h | h
            · exact hm c' h
            · have e : c' = c := by simpa using h
              rw [e]
              exact hc
          · rw [upd_same, sV_app]
            rfl
        · obtain ⟨F2, k2, m, hml, hm, eD⟩ := hP
          have hm2 : m.length = S.length := by omega
          exact joinQ eD (by omega) (q m H2 ⟨hm2, hm⟩ (F2.mono (by omega)) (k1.trans k2))
end
end K33
set_option Elab.async false
set_option linter.all false
set_option maxRecDepth 100000
set_option maxHeartbeats 4000000
namespace K33
open PySem PySem.Spec PyProof.Rows L2 Fd Tx
open M33 hiding P
/-- what a try-suite does not do -/
def turnM (S m : List Nat) : List Nat := S.map fun c => S.getD (m.idxOf c) 0
theorem turnM_len (S m : List Nat) : (turnM S m).length = S.length := List.length_map ..
/-- c is the first of S that m does not have -/
def Lost (S m : List Nat) (c : Nat) : Prop := ∃ i : Nat, S[i]? = some c ∧ c ∉ m ∧ ∀ j : Nat, j < i → ∀ c', S[j]? = some c' → c' ∈ m
theorem iteNN {c A B : Prop} [Decidable c] (h : c) (b : B) : if (!decide c) = true then A else B := by
  rw [decide_eq_true h]
  exact iteF b
/-- isinstance(e, c) in a suite -/
theorem call_isEx {X : Cx} {a : Addr} {oe : Obj} {pn : List (Addr × Obj)} {cls : Value} {d : Option Addr} (hz : Zc cls d oe) (hf : ∃ vs, oe.data = .fields vs) :
    CallR (X.suite a ((a, oe) :: pn)) (.builtin "isinstance") (fun xs H Q => ∃ (D dd : Addr) (c : V) (cv : Value) (b : Bool) (fs : List (Str × V)), cls = .ref D ∧ d = some dd ∧ ExH.IsC X.K D ∧ xs = [.ref a, c] ∧ H dd = some (.xd fs) ∧ (∀ u, RelV c u → u = cv) ∧ PySem.W.kitOne X.K (.ref D) cv = some b ∧ Q (.bl b) H) := by
  intro pins s σ H xs us Q I r h
  obtain ⟨D, dd, c, cv, b, fs, rfl, rfl, hC, h1, h2, h3, h4, h5⟩ := h
  exact ExH.call_isEd (fs := fs) hC hz hf pins s σ H xs us Q I r ⟨c, cv, b, fs, h1, h2, h3, h4, h5⟩
section
variable {P : Program} {w : World} {K : PySem.W.Frag} {mg : Str → Option Value} {base : Heap} {B : Fs} {k : Nat}
/-! ### copied, on a text -/
def spCop : Sp := fun vs H Q _ => ∃ x : Str, vs = [.str x] ∧ Q (.str x) H
abbrev N_copied : List Str := ["thing", "part", "key"]
theorem sc_copied : FnScope N_copied ["thing"] (defScope s_copied) :=
  ⟨rfl, rfl, rfl, by decide +kernel, rfl, by decide +kernel, by decide +kernel⟩
theorem ok_copied (T : Txt K mg B) : FnOk P w K mg base CX0 (k + 1) B.f_copied B.d_copied ["thing"] spCop := by
  refine T.F_copied.ok sc_copied (fun vs H Q E h => ?_) (fun cdv A outer s H vs Q E hr h => ?_)
  · obtain ⟨x, rfl, _⟩ := h
    rfl
  · obtain ⟨x, rfl, q⟩ := h
    have nd := sc_copied.nd
    refine ⟨_, (pss_cons (ps_if (pt_truth (pe_callB call_isi (by rfl) T.z_isinstance (by decide +kernel) (pa_cons (pv 0) (pa_cons (pe_bltn (by rfl) T.z_list (by decide +kernel) (v := .ty "list") rfl) pa_nil))) (by intro _; rfl)) pss_never pss_nil)
      (pss_cons (ps_if (pt_truth (pe_callB call_isi (by rfl) T.z_isinstance (by decide +kernel) (pa_cons (pv 0) (pa_cons (pe_bltn (by rfl) T.z_tuple (by decide +kernel) (v := .ty "tuple") rfl) pa_nil))) (by intro _; rfl)) pss_never pss_nil)
      (pss_cons (ps_if (pt_truth (pe_callB call_isi (by rfl) T.z_isinstance (by decide +kernel) (pa_cons (pv 0) (pa_cons (pe_bltn (by rfl) T.z_dict (by decide +kernel) (v := .ty "dict") rfl) pa_nil))) (by intro _; rfl)) pss_never pss_nil)
      (pss_one (ps_ret (pv 0)))))), ?_⟩
    refine ⟨_, rfl, _, _, _, _, false, rfl, .ty "list", .base (.str x), kit_ty (by rfl), _, rfl, iteF ?_⟩
    refine ⟨_, rfl, _, _, _, _, false, rfl, .ty "tuple", .base (.str x), kit_ty (by rfl), _, rfl, iteF ?_⟩
    refine ⟨_, rfl, _, _, _, _, false, rfl, .ty "dict", .base (.str x), kit_ty (by rfl), _, rfl, iteF ?_⟩
    exact ⟨_, rfl, q⟩
/-! ### NotOne.__init__ -/
def spInit (C : Addr) : Sp := fun vs H Q _ => ∃ (a : Addr) (x : Str), vs = [.ref a, .str x] ∧ H a = some (exo a C none) ∧ ∀ d, H d = none → d ≠ a → Q .non (upd (upd H d (exd d [(("sign" : Str), .str x)])) a (exo a C (some d)))
abbrev N_init : List Str := ["self", "sign"]
theorem sc_init : FnScope N_init ["self", "sign"] (defScope s_init) :=
  ⟨rfl, rfl, rfl, by decide +kernel, rfl, by decide +kernel, by decide +kernel⟩
theorem ok_init (T : Txt K mg B) : FnOk P w K mg base CX0 (k + 2) B.f_init B.d_init ["self", "sign"] (spInit B.C_NotOne) := by
  have G_copied : FnOk P w K mg base CX0 (k + 1) B.f_copied B.d_copied ["thing"] spCop := ok_copied T
  refine T.F_init.ok sc_init (fun vs H Q E h => ?_) (fun cdv A outer s H vs Q E hr h => ?_)
  · obtain ⟨a, x, rfl, _⟩ := h
    rfl
  · obtain ⟨a, x, rfl, e, q⟩ := h
    have nd := sc_init.nd
    refine ⟨_, (pss_cons (ps_expr (ExH.pe_initB ExH.base_LE (by rfl) T.z_LookupError (by decide +kernel) ExH.typ_LE T.v_LE (by decide +kernel) (by decide +kernel) (pa_cons (pv 0) (pa_cons pe_str pa_nil))))
      (pss_one (ExH.ps_stB ExH.base_LE (pv 0) (pe_call G_copied hr (by rfl) T.m_copied T.F_copied.kp T.b_copied .nil pass0 (pa_cons (pv 1) pa_nil))))), ?_⟩
    refine ⟨_, rfl, a, B.C_NotOne, _, rfl, (by show 1 ≤ 1000; decide), T.X_NotOne, e, ?_⟩
    refine ⟨_, rfl, x, rfl, _, rfl, a, B.C_NotOne, rfl, T.X_NotOne, T.n_NotOne, .inl ⟨e, fun d nd' ne => ?_⟩⟩
    exact q d nd' ne
/-! ### turned_map -/
def spTurned (C : Addr) : Sp := fun vs H Q E => ∃ (S m : List Nat), vs = [.str (tx S), .str (tx m)] ∧ Sg S ∧ IsMap S m ∧ (∀ H', Same H H' → (∀ c ∈ S, c ∈ m) → Q (.str (tx (turnM S m))) H') ∧
  ∀ (c : Nat) (d : Addr) (H' : Hp), Lost S m c → H d = none → Same H H' → H' d = some (.xd [(("sign" : Str), .str (sg c))]) → E (.ref C) (some d) H'
abbrev N_turned_map : List Str := ["signs", "one", "sign"]
theorem sc_turned_map : FnScope N_turned_map ["signs", "one"] (defScope s_turned_map) :=
  ⟨rfl, rfl, rfl, by decide +kernel, rfl, by decide +kernel, by decide +kernel⟩
theorem ok_turned_map (T : Txt K mg B) : FnOk P w K mg base (L2.CX P w) (k + 4) B.f_turned_map B.d_turned_map ["signs", "one"] (spTurned B.C_NotOne) := by
  have G_init : FnOk P w K mg base CX0 (k + 2) B.f_init B.d_init ["self", "sign"] (spInit B.C_NotOne) := ok_init T
  refine T.F_turned_map.okX sc_turned_map (fun vs H Q E h => ?_) (fun cdv A outer s H vs Q E hr h => ?_)
  · obtain ⟨S, m, rfl, _⟩ := h
    rfl
  · obtain ⟨S, m, rfl, hS, hm, q, qx⟩ := h
    have nd := sc_turned_map.nd
    have h4 := hS.len
    have hml := hm.len
    refine ⟨_, (pss_cons (ps_for (passes_of rfl) rfl (pi_str (pv 0)) (pg_name (i := 2) nd rfl (.inl rfl))
          (pss_one (ps_if (pt_cmpR op_notIn_sign (pv 2) (pv 1) rfl)
                (pss_one (ps_raise rfl (takes_of (E := E) rfl rfl rfl rfl) (ExH.pmk_B ExH.base_LE T.X_NotOne T.i_NotOne T.t_NotOne G_init hr T.b_init .nil pass0 (by rfl) T.m_NotOne (pa_cons (pv 2) pa_nil))))
                pss_nil)))
      (pss_one (ps_ret (pe_join pe_str (pe_lc (own := [("sign", 2)]) rfl nd (pi_str (pv 0)) (blkOk_by (own := [("sign", 2)]) (N := N_turned_map) (sc := defScope s_turned_map) (by decide +kernel)) (fun _ _ _ _ _ => (pg_name (i := 2) nd rfl (.inl rfl))) (fun _ _ _ _ _ => pts_nil) (fun _ _ _ _ _ => (pe_ix ix_str (pv 0) (pe_m1 PySem.F.slot_str_index PySem.F.type_str_index Tx.mt_idx1 (pv 1) (pv 2)) (fun _ _ => rfl)))))))), ?_⟩
    refine ⟨_, rfl, _, rfl, ?_⟩
    refine for_it walk_str (fun i σ H' => H' = H ∧ (∀ j, j < i → ∀ c, S[j]? = some c → c ∈ m) ∧ ∃ y, σ = [some (.str (tx S)), some (.str (tx m)), y]) ⟨rfl, fun j h => absurd h (Nat.not_lt_zero _), none, rfl⟩ (fun _ _ _ _ _ => trivial) ?_ ?_
    · rintro i x σ H1 H2 hi ⟨rfl, hall, y, rfl⟩ ⟨rfl, c, hc, rfl⟩
      have hc' := tx_at hc
      refine ⟨_, rfl, _, rfl, c, _, rfl, rfl, _, rfl, ?_⟩
      rw [tx_cps]
      by_cases hin : c ∈ m
      · refine (iteNN hin ⟨rfl, ?_, _, rfl⟩)
        intro j hj c' hc2
        by_cases hjl : j < i
        · exact hall j hjl c' hc2
        · have : j = i := by omega
          subst this
          rw [hc'] at hc2
          cases hc2
          exact hin
      · refine (iteNY hin ?_)
        refine ⟨_, rfl, (by show 1 ≤ 1000; decide), fun a na => ⟨a, _, rfl, upd_same, fun d nd' ne => ⟨rfl, d, [(("sign" : Str), .str (sg c))], upd_same, ?_, ?_, ?_⟩⟩⟩
        · rw [upd_ne ne, upd_same]
        · rw [upd_ne ne] at nd'
          exact nd'
        · have nd2 : H2 d = none := by
            rw [upd_ne ne] at nd'
            exact nd'
          refine qx c d _ ⟨i, hc', hin, hall⟩ nd2 (fun b o e => ?_) upd_same
          rw [upd_ne (ne_of_none e nd2), del_ne (ne_of_none e na), upd_ne (ne_of_none e na), upd_ne (ne_of_none e nd2), upd_ne (ne_of_none e na)]
          exact e
    · rintro σ H1 ⟨rfl, hall, y, rfl⟩
      have hall' : ∀ c ∈ S, c ∈ m := fun c hc => by
        obtain ⟨j, hj, e⟩ := List.getElem_of_mem hc
        exact hall j (by show j < (tx S).length; rw [tx_len]; exact hj) c (by rw [List.getElem?_eq_getElem hj, e])
      refine ⟨⟨_, rfl⟩, _, rfl, _, rfl, fun D nD => ?_⟩
      refine lc_it walk_str (PvL H1 D (sV (turnM S m))) (pvl0 nD) (fun _ _ _ _ => trivial) (fun i x H2 H3 hi hP hY => ?_) (fun H2 hP => ?_)
      · obtain ⟨rfl, c, hc, rfl⟩ := hY
        have hc' := tx_at hc
        have hcm : c ∈ m := hall' c (List.mem_of_getElem? hc')
        have hlt := List.idxOf_lt_length_of_mem hcm
        refine ⟨rfl, _, rfl, _, rfl, ⟨_, rfl⟩, _, rfl, m, c, _, rfl, rfl, idx_at hcm, idx_first, _, _, _, rfl, rfl, tx_small (b := S) (by omega), getD_at (by omega), pvl_snoc nD ?_ hP ?_⟩
        · rw [sV_len, turnM_len]
          omega
        · refine sV_at ?_
          unfold turnM
          rw [List.getElem?_map, hc']
          rfl
      · obtain ⟨s1, e1⟩ := pvl_end hP (by rw [sV_len, turnM_len]; exact Nat.le_of_eq (tx_len S).symm)
        exact joinQ e1 (by rw [turnM_len]; omega) (q _ s1 hall')
/-! ### _law_turned -/
def spTold : Sp := fun vs H Q _ => ∃ (S m : List Nat), vs = [.str (tx S), .str (tx m)] ∧ Sg S ∧ IsMap S m ∧ (∀ H', Same H H' → (∀ c ∈ S, c ∈ m) → Q (.str (tx (turnM S m))) H') ∧
  ∀ (c : Nat) (t : Addr) (H' : Hp), Lost S m c → Same H H' → H' t = some (.tup [.str ("none" : Str), .str (sg c)]) → Q (.ref t) H'
abbrev N__law_turned : List Str := ["_law_signs_here", "_law_one", "_law_wrong", "_law_found", "e"]
theorem sc__law_turned : FnScope N__law_turned ["_law_signs_here", "_law_one"] (defScope s__law_turned) :=
  ⟨rfl, rfl, rfl, by decide +kernel, rfl, by decide +kernel, by decide +kernel⟩
theorem ok__law_turned (T : Txt K mg B) : FnOk P w K mg base CX0 (k + 5) B.f__law_turned B.d__law_turned ["_law_signs_here", "_law_one"] spTold := by
  have G_turned_map : FnOk P w K mg base (L2.CX P w) (k + 4) B.f_turned_map B.d_turned_map ["signs", "one"] (spTurned B.C_NotOne) := ok_turned_map T
  refine T.F__law_turned.ok sc__law_turned (fun vs H Q E h => ?_) (fun cdv A outer s H vs Q E hr h => ?_)
  · obtain ⟨S, m, rfl, _⟩ := h
    rfl
  · obtain ⟨S, m, rfl, hS, hm, q, qt⟩ := h
    have nd := sc__law_turned.nd
    refine ⟨_, (pss_cons (ps_asg (pe_tup (pa_cons pe_non (pa_cons pe_non pa_nil))) (pg_tup rfl (pgs_cons (pg_name (i := 2) nd rfl (.inl rfl)) (pgs_cons (pg_name (i := 3) nd rfl (.inl rfl)) pgs_nil))))
      (C8.pss_cut (ps_try_as (i := 4) rfl rfl nd rfl (by rfl) ⟨by rfl, by decide, .inl T.m_NotOne⟩ takes0
          (fun W pn xe tk po => pss_one (ps_set (i := 3) nd rfl (.inl rfl) (pe_callS G_turned_map hr (by rfl) T.m_turned_map T.F_turned_map.kp T.b_turned_map (fun σ => passAt tk σ) (pa_cons (pv 0) (pa_cons (pv 1) pa_nil)))))
          (fun a oe cls d pn hz hf => pss_one (ps_set (i := 2) nd rfl (.inl rfl) (pe_ifExp (pt_val (pe_callB (call_isEx (X := (cxOf CX0 P w K mg base N__law_turned (Str.ofString "_law_turned") (defScope s__law_turned) B.f__law_turned cdv A outer s H E).nox) (a := a) (pn := pn) hz hf) (by rfl) T.z_isinstance (by decide +kernel) (pa_cons (pv 4) (pa_cons (pe_bltn (by rfl) T.z_LookupError (by decide +kernel) (v := .ty "LookupError") rfl) pa_nil)))) (pe_tup (pa_cons pe_str (pa_cons (pe_xf T.xf_NotOne T.n_NotOne hz hf (pv 4)) pa_nil))) (pe_tup (pa_cons pe_str pa_nil))))))
      (pss_one (ps_ret (pe_ifExp (pt_cmpR op_isN (pv 2) pe_non (nomark _)) (pv 3) (pv 2)))))), ?_⟩
    refine ⟨(by show 2 ≤ sizeLine; decide), fun t nt => ?_⟩
    refine ⟨t, _, rfl, .inl (.inl upd_same), rfl, _, _, rfl, _, _, rfl, rfl, ?_⟩
    have s0 : Same H (upd H t (.tup [.non, .non])) := same_new nt
    generalize upd H t (.tup [.non, .non]) = H0 at s0 ⊢
    refine ⟨fun σ H' => Same H H' ∧ ((∃ y4, (∀ c ∈ S, c ∈ m) ∧ σ = [some (.str (tx S)), some (.str (tx m)), some .non, some (.str (tx (turnM S m))), y4]) ∨
      ∃ (c : Nat) (t : Addr) (y4 : Option V), Lost S m c ∧ H' t = some (.tup [.str ("none" : Str), .str (sg c)]) ∧ σ = [some (.str (tx S)), some (.str (tx m)), some (.ref t), some .non, y4]), ?_, ?_⟩
    · refine ⟨_, rfl, _, rfl, S, m, rfl, hS, hm, fun H1 s1 hall => ⟨s0.trans s1, .inl ⟨none, hall, rfl⟩⟩, fun c d H1 hl nd1 s1 e1 => ?_⟩
      refine ⟨true, PySem.W.exm_ref T.is_NotOne.hs T.hd_NotOne T.X_NotOne.tyC T.sub_NotOne, fun _ a na => ?_, fun h => (by cases h)⟩
      refine ⟨_, rfl, B.C_NotOne, d, _, _, true, _, rfl, rfl, T.is_NotOne, rfl, e1, (fun u r => r), T.le_NotOne, _, rfl, iteT ?_⟩
      refine ⟨_, rfl, rfl, rfl, d, _, _, rfl, e1, rfl, (by show 2 ≤ sizeLine; decide), fun t2 nt2 => ?_⟩
      exact ⟨(s0.trans s1).trans (same_new nt2), .inr ⟨c, t2, _, hl, upd_same, rfl⟩⟩
    · rintro σ H1 ⟨s1, ⟨y4, hall, rfl⟩ | ⟨c, t2, y4, hl, e1, rfl⟩⟩
      · exact ⟨_, rfl, rfl, _, rfl, iteT ⟨_, rfl, q _ s1 hall⟩⟩
      · exact ⟨_, rfl, rfl, _, rfl, iteF ⟨_, rfl, qt c t2 _ hl s1 e1⟩⟩
end
end K33
set_option Elab.async false
set_option linter.all false
set_option maxRecDepth 100000
set_option maxHeartbeats 4000000
namespace K33
open PySem PySem.Spec PyProof.Rows L2 Fd Tx
open M33 hiding P
section
variable {K : PySem.W.Frag} {H : Hp} {Q : VK} {z : Str}
/-! ### repr of what is compared -/
theorem leaves_tx {cs : List Nat} (hc : ∀ c ∈ cs, c < 128) : PyData.leavesShort 13 (.str (tx cs)) = true := by
  unfold PyData.leavesShort
  rw [tx_cps, List.all_eq_true]
  exact fun c h => decide_eq_true (Nat.lt_trans (hc c h) (by decide))
theorem repr_tx {cs : List Nat} (hl : cs.length ≤ 100) (hc : ∀ c ∈ cs, c < 128) (q : Q (.str (PyData.str (tx cs)).shown) H) : Gd.rRepr K [.str (tx cs)] H Q := by
  refine ⟨_, _, rfl, .str _, rfl, rfl, (by show 0 ≤ 60; decide), PyData.shown_fits (B := 13) (by decide) (by decide) (leaves_tx hc) ?_, q⟩
  show (tx cs).cps.size ≤ 2 ^ 20
  have : (tx cs).cps.size = cs.length := tx_len cs
  omega
theorem log_small {i : Int} (h : i.natAbs ≤ 1000) : i.natAbs.log2 < 20 := by
  by_cases h0 : i.natAbs = 0
  · rw [h0]
    decide
  · rw [Nat.log2_lt h0]
    omega
theorem show_int {i : Int} (h : i.natAbs ≤ 1000) : PyData.showable (.int i) = true := by
  have := log_small h
  unfold PyData.showable
  exact decide_eq_true (by omega)
theorem leaves_int {i : Int} (h : i.natAbs ≤ 1000) : PyData.leavesShort 13 (.int i) = true := by
  unfold PyData.leavesShort
  exact decide_eq_true (PyData.shown_int_le (by omega))
theorem weight_int {i : Int} (h : i.natAbs ≤ 1000) : PyData.weight (.int i) ≤ 21 := by
  have := log_small h
  unfold PyData.weight
  split <;> omega
theorem repr_int {i : Int} (h : i.natAbs ≤ 1000) (q : Q (.str (PyData.int i).shown) H) : Gd.rRepr K [.int i] H Q := by
  refine ⟨_, _, rfl, .int _, show_int h, rfl, (by show 0 ≤ 60; decide), PyData.shown_fits (B := 13) (by decide) (by decide) (leaves_int h) ?_, q⟩
  have := weight_int h
  omega
theorem repr_non (q : Q (.str (PyData.none).shown) H) : Gd.rRepr K [.non] H Q :=
  ⟨_, _, rfl, .non, rfl, rfl, (by show 0 ≤ 60; decide), PyData.shown_fits (B := 13) (by decide) (by decide) rfl (by show 0 ≤ 2 ^ 20; decide), q⟩
theorem repr_bl {b : Bool} (q : Q (.str (PyData.bool b).shown) H) : Gd.rRepr K [.bl b] H Q :=
  ⟨_, _, rfl, .bl b, rfl, rfl, (by show 0 ≤ 60; decide), PyData.shown_fits (B := 13) (by decide) (by decide) rfl (by show 0 ≤ 2 ^ 20; decide), q⟩
theorem repr_pair {t : Addr} {i j : Int} (hi : i.natAbs ≤ 1000) (hj : j.natAbs ≤ 1000) (e : H t = some (.tup [.int i, .int j])) (q : Q (.str (PyData.tuple [.int i, .int j]).shown) H) : Gd.rRepr K [.ref t] H Q := by
  refine ⟨_, .tuple [.int i, .int j], rfl, .tup (.inl (.inl e)) (.cons (.int i) (.cons (.int j) .nil)), ?_, rfl, (by simp [PyData.depth, PyData.depthAll]), PyData.shown_fits (B := 13) (by decide) (by decide) ?_ ?_, q⟩
  · simp only [PyData.showable, PyData.showableAll]
    have h1 := show_int hi
    have h2 := show_int hj
    simp only [PyData.showable] at h1 h2
    rw [h1, h2]
    rfl
  · simp only [PyData.leavesShort, PyData.leavesShortAll]
    have h1 := leaves_int hi
    have h2 := leaves_int hj
    simp only [PyData.leavesShort] at h1 h2
    rw [h1, h2]
    rfl
  · have h1 := weight_int hi
    have h2 := weight_int hj
    show PyData.weight (.int i) + 1 + (PyData.weight (.int j) + 1 + 0) ≤ 2 ^ 20
    omega
/-- the shown text of a time -/
def timeT : V → Str
  | .int i => (PyData.int i).shown
  | _ => (PyData.none).shown
theorem repr_time {S m o : List Nat} {v : V} (h : IsTimes S m o v) (q : Q (.str (timeT v)) H) : Gd.rRepr K [v] H Q := by
  obtain ⟨L, i, hc, hL, ⟨j, hj, e, rfl⟩ | ⟨_, rfl⟩⟩ := h
  · exact repr_int (by omega) q
  · exact repr_non q
theorem lay_tx {cs : List Nat} (hc : ∀ c ∈ cs, c < 128) : PyData.canLay0 (.str (tx cs)) = true := by
  simp only [PyData.canLay0, PyData.strOk]
  rw [← Array.all_toList, tx_cps, List.all_eq_true]
  exact fun c h => decide_eq_true (Nat.lt_trans (hc c h) (by decide))
theorem ok_tx {cs : List Nat} (hc : ∀ c ∈ cs, c < 128) : SeqAt.shaped (.str (tx cs)) = true := Bool.and_eq_true_iff.mpr ⟨lay_tx hc, rfl⟩
theorem lay_sg {c : Nat} (hc : c < 128) : PyData.canLay0 (.str (sg c)) = true := lay_tx (cs := [c]) fun x hx => by
  have : x = c := by simpa using hx
  omega
theorem ok_pair {c : Nat} (hc : c < 128) : SeqAt.shaped (.tuple [.str ("none" : Str), .str (sg c)]) = true := by
  refine Bool.and_eq_true_iff.mpr ⟨?_, by simp [PyData.depth, PyData.depthAll]⟩
  simp only [PyData.canLay0, PyData.canLayAll0]
  have h1 := lay_sg hc
  simp only [PyData.canLay0] at h1
  rw [h1]
  decide +kernel
theorem ok_signs {cs : List Nat} (hc : ∀ c ∈ cs, c < 128) : SeqAt.shaped (.list (cs.map fun c => PyData.str (sg c))) = true := by
  have key : ∀ cs : List Nat, (∀ c ∈ cs, c < 128) → PyData.canLayAll0 (cs.map fun c => PyData.str (sg c)) = true ∧ PyData.depthAll (cs.map fun c => PyData.str (sg c)) = 0 := by
    intro cs
    induction cs with
    | nil => exact fun _ => ⟨rfl, rfl⟩
    | cons c cs ih =>
      intro h
      obtain ⟨i1, i2⟩ := ih fun x hx => h x (List.mem_cons_of_mem _ hx)
      constructor
      · simp only [List.map_cons, PyData.canLayAll0]
        rw [lay_sg (h c List.mem_cons_self), i1]
        rfl
      · simp only [List.map_cons, PyData.depthAll, PyData.depth]
        rw [i2]
        rfl
  obtain ⟨k1, k2⟩ := key cs hc
  refine Bool.and_eq_true_iff.mpr ⟨?_, decide_eq_true ?_⟩
  · simp only [PyData.canLay0]
    exact k1
  · simp only [PyData.depth]
    rw [k2]
    decide
/-- all that repr asks of a value -/
structure RP (K : PySem.W.Frag) (H : Hp) (x : V) (d : PyData) : Prop where
  dp : Dp K H x d
  sh : d.showable = true
  nd : d.hasDict = false
  de : d.depth ≤ 60
  sz : d.shown.length ≤ sizeLine
theorem RP.of {x : V} (h : Gd.rRepr K [x] H fun v _ => v = .str z) : ∃ d, RP K H x d ∧ d.shown = z := by
  obtain ⟨x', d, e, h1, h2, h3, h4, h5, h6⟩ := h
  cases e
  exact ⟨d, ⟨h1, h2, h3, h4, h5⟩, V.str.inj h6⟩
theorem rp_tx {cs : List Nat} (hl : cs.length ≤ 100) (hc : ∀ c ∈ cs, c < 128) : ∃ d, RP K H (.str (tx cs)) d ∧ d.shown = (PyData.str (tx cs)).shown := RP.of (repr_tx hl hc rfl)
theorem rp_pair {t : Addr} {i j : Int} (hi : i.natAbs ≤ 1000) (hj : j.natAbs ≤ 1000) (e : H t = some (.tup [.int i, .int j])) : ∃ d, RP K H (.ref t) d ∧ d.shown = (PyData.tuple [.int i, .int j]).shown := RP.of (repr_pair hi hj e rfl)
theorem rp_time {S m o : List Nat} {v : V} (h : IsTimes S m o v) : ∃ d, RP K H v d ∧ d.shown = timeT v := RP.of (repr_time h rfl)
theorem rp_bl {b : Bool} : ∃ d, RP K H (.bl b) d ∧ d.shown = (PyData.bool b).shown := RP.of (repr_bl rfl)
/-! ### the lost signs -/
def lostF (S m : List Nat) (i : Nat) : List Nat := (S.take i).filter fun c => !decide (c ∈ m)
theorem lostF_len (S m : List Nat) (i : Nat) : (lostF S m i).length ≤ S.length := Nat.le_trans (List.length_filter_le ..) (by rw [List.length_take]; omega)
theorem lostF_yes {S m : List Nat} {i c : Nat} (hc : S[i]? = some c) (h : c ∉ m) : lostF S m (i + 1) = lostF S m i ++ [c] := by
  unfold lostF
  rw [List.take_add_one, hc, Option.toList_some, List.filter_append, List.filter_cons, decide_eq_false h]
  rfl
theorem lostF_no {S m : List Nat} {i c : Nat} (hc : S[i]? = some c) (h : c ∈ m) : lostF S m (i + 1) = lostF S m i := by
  unfold lostF
  rw [List.take_add_one, hc, Option.toList_some, List.filter_append, List.filter_cons, decide_eq_true h]
  exact List.append_nil _
theorem filter_nil_iff {S m : List Nat} : S.filter (fun c => !decide (c ∈ m)) = [] ↔ ∀ c ∈ S, c ∈ m := by
  rw [List.filter_eq_nil_iff]
  exact ⟨fun h c hc => by simpa using h c hc, fun h c hc => by simpa using h c hc⟩
theorem lost_head : ∀ {S m : List Nat} {c : Nat}, Lost S m c → ∃ r, S.filter (fun c => !decide (c ∈ m)) = c :: r
  | [], m, c, ⟨i, h, _⟩ => by simp at h
  | a :: S, m, c, ⟨0, h, hn, _⟩ => by
    have e : a = c := by simpa using h
    subst e
    rw [List.filter_cons, decide_eq_false hn]
    exact ⟨_, rfl⟩
  | a :: S, m, c, ⟨i + 1, h, hn, hall⟩ => by
    have ha : a ∈ m := hall 0 (Nat.succ_pos _) a rfl
    obtain ⟨r, hr⟩ := lost_head (S := S) (m := m) (c := c) ⟨i, by simpa using h, hn, fun j hj c' hc' => hall (j + 1) (by omega) c' (by simpa using hc')⟩
    rw [List.filter_cons, decide_eq_true ha]
    exact ⟨r, hr⟩
theorem dp_signs : ∀ cs : List Nat, DpAll K H (sV cs) (cs.map fun c => PyData.str (sg c))
  | [] => .nil
  | c :: cs => .cons (.str _) (dp_signs cs)
theorem eqv_nilD (ds : List PyData) : PyData.eqv (.list ds) (.list []) = ds.isEmpty := by
  cases ds with
  | nil => simp [PyData.eqv, PyData.eqvAll]
  | cons n ns => simp [PyData.eqv, PyData.eqvAll]
end
end K33
set_option Elab.async false
set_option linter.all false
set_option maxRecDepth 100000
set_option maxHeartbeats 4000000
namespace K33
open PySem PySem.Spec PyProof.Rows L2 Fd Tx
open M33 hiding P
section
variable {P : Program} {w : World} {K : PySem.W.Frag} {mg : Str → Option Value} {base : Heap} {B : Fs} {k : Nat}
theorem P_sm {S m : List Nat} (hS : Sg S) (hm : IsMap S m) (j : Nat) : ∀ c ∈ M33.P S m j, c < 128 := fun c hc => hS.sm c ((hm.P j).mem c hc)
theorem turn_sm {S m : List Nat} (hS : Sg S) : ∀ c ∈ turnM S m, c < 128 := by
  intro c hc
  obtain ⟨x, _, rfl⟩ := List.mem_map.mp hc
  by_cases h : m.idxOf x < S.length
  · exact hS.sm _ (getD_mem h)
  · rw [List.getD_eq_getElem?_getD, List.getElem?_eq_none (by omega)]
    decide
/-! ### _law_right -/
def spRight : Sp := fun vs H Q _ => ∃ (d l : Addr) (cs : List Int) (n : Nat) (S m o : List Nat), vs = [.ref d, .str (tx S), .str (tx m), .str (tx o)] ∧ FeedAt H d l cs n ∧ n + 10 ≤ 1000000 ∧ Sg S ∧ IsMap S m ∧ IsMap S o ∧
  ∀ (H' : Hp), FeedAt H' d l cs (n + 4) → Keep d H H' → Q (.bl true) H'
abbrev N__law_right : List Str := ["_law_feed_here", "_law_signs_here", "_law_one", "_law_other", "_law_all_of", "_law_at", "_law_times", "_law_spot", "_law_goal", "_law_due", "_law_lost", "_law_sign"]
theorem sc__law_right : FnScope N__law_right ["_law_feed_here", "_law_signs_here", "_law_one", "_law_other"] (defScope s__law_right) :=
  ⟨rfl, rfl, rfl, by decide +kernel, rfl, by decide +kernel, by decide +kernel⟩
theorem ok__law_right (T : Txt K mg B) : Gd.FnOkG P w K mg base CX0 (k + 6) B.f__law_right B.d__law_right ["_law_feed_here", "_law_signs_here", "_law_one", "_law_other"] spRight := by
  have G__law_draw : FnOk P w K mg base CX0 (k + 5) B.f__law_draw B.d__law_draw ["_law_feed_here", "_law_many"] spDraw := ok__law_draw T
  have G__law_pick : FnOk P w K mg base CX0 (k + 5) B.f__law_pick B.d__law_pick ["_law_feed_here", "_law_some"] (spPickS K) := ok__law_pick T
  have G__law_all_powers : FnOk P w K mg base CX0 (k + 5) B.f__law_all_powers B.d__law_all_powers ["_law_signs_here", "_law_one"] spPowers := ok__law_all_powers T
  have G__law_turned : FnOk P w K mg base CX0 (k + 5) B.f__law_turned B.d__law_turned ["_law_signs_here", "_law_one"] spTold := ok__law_turned T
  have G_power : FnOk P w K mg base CX0 (k + 5) B.f_power B.d_power ["signs", "one", "times"] spPower := ok_power T
  have G_map_round : FnOk P w K mg base CX0 (k + 5) B.f_map_round B.d_map_round ["signs", "one"] spRound := ok_map_round T
  have G_times_to : FnOk P w K mg base CX0 (k + 5) B.f_times_to B.d_times_to ["signs", "one", "other"] spTimes := ok_times_to T
  have G_is_one_to_one : FnOk P w K mg base CX0 (k + 5) B.f_is_one_to_one B.d_is_one_to_one ["signs", "one"] spOne := ok_is_one_to_one T
  refine Gd.okG T.F__law_right sc__law_right (fun vs H Q E h => ?_) (fun cdv A outer s H vs Q E hgd hr h => ?_)
  · obtain ⟨d, l, cs, n, S, m, o, rfl, _⟩ := h
    rfl
  · obtain ⟨d, l, cs, n, S, m, o, rfl, F, hn, hS, hm, ho, q⟩ := h
    have nd := sc__law_right.nd
    refine ⟨_, (pss_cons (ps_asg (pe_call G__law_all_powers hr (by rfl) T.m__law_all_powers T.F__law_all_powers.kp T.b__law_all_powers .nil pass0 (pa_cons (pv 1) (pa_cons (pv 2) pa_nil))) (pg_tup rfl (pgs_cons (pg_name (i := 4) nd rfl (.inl rfl)) (pgs_cons (pg_name (i := 5) nd rfl (.inl rfl)) pgs_nil))))
      (pss_cons (ps_set (i := 6) nd rfl (.inl rfl) (pe_call G__law_pick hr (by rfl) T.m__law_pick T.F__law_pick.kp T.b__law_pick .nil pass0 (pa_cons (pv 0) (pa_cons (pe_lst (pa_cons pe_int (pa_cons pe_int (pa_cons pe_int (pa_cons (pe_call G__law_draw hr (by rfl) T.m__law_draw T.F__law_draw.kp T.b__law_draw .nil pass0 (pa_cons (pv 0) (pa_cons pe_int pa_nil))) (pa_cons (pe_op op_pow pe_int pe_int) (pa_cons (pe_op op_add (pe_op op_pow pe_int pe_int) (pe_call G__law_draw hr (by rfl) T.m__law_draw T.F__law_draw.kp T.b__law_draw .nil pass0 (pa_cons (pv 0) (pa_cons pe_int pa_nil)))) pa_nil))))))) pa_nil))))
      (C8.pss_cut (ps_set (i := 7) nd rfl (.inl rfl) (pe_ifExp (pt_cmpR op_lt (pv 6) (pe_callB call_len_seq (by rfl) T.z_len (by decide +kernel) (pa_cons (pv 4) pa_nil)) (nomark _)) (pv 6) (pe_op op_add (pv 5) (pe_op op_mod (pe_op op_sub (pv 6) (pv 5)) (pe_op op_sub (pe_callB call_len_seq (by rfl) T.z_len (by decide +kernel) (pa_cons (pv 4) pa_nil)) (pv 5))))))
      (pss_cons (ps_if (pt_cmpR op_ne (pe_callB (Gd.call_reprD hgd hr.units) (by rfl) T.z_repr (by decide +kernel) (pa_cons (pe_call G_power hr (by rfl) T.m_power T.F_power.kp T.b_power .nil pass0 (pa_cons (pv 1) (pa_cons (pv 2) (pa_cons (pv 6) pa_nil)))) pa_nil)) (pe_callB (Gd.call_reprD hgd hr.units) (by rfl) T.z_repr (by decide +kernel) (pa_cons (pe_ix ix_list (pv 4) (pv 7) (fun _ _ => rfl)) pa_nil)) (nomark _))
          (pss_one (ps_ret pe_bl))
          pss_nil)
      (pss_cons (ps_if (pt_cmpR op_ne (pe_callB (Gd.call_reprD hgd hr.units) (by rfl) T.z_repr (by decide +kernel) (pa_cons (pe_call G_map_round hr (by rfl) T.m_map_round T.F_map_round.kp T.b_map_round .nil pass0 (pa_cons (pv 1) (pa_cons (pv 2) pa_nil))) pa_nil)) (pe_callB (Gd.call_reprD hgd hr.units) (by rfl) T.z_repr (by decide +kernel) (pa_cons (pe_tup (pa_cons (pv 5) (pa_cons (pe_op op_sub (pe_callB call_len_seq (by rfl) T.z_len (by decide +kernel) (pa_cons (pv 4) pa_nil)) (pv 5)) pa_nil))) pa_nil)) (nomark _))
          (pss_one (ps_ret pe_bl))
          pss_nil)
      (C8.pss_cut (ps_for PassesOwn.never rfl (pi_tup (pe_tup (pa_cons (pe_call G__law_pick hr (by rfl) T.m__law_pick T.F__law_pick.kp T.b__law_pick .nil pass0 (pa_cons (pv 0) (pa_cons (pv 4) pa_nil))) (pa_cons (pv 3) pa_nil)))) (pg_name (i := 8) nd rfl (.inl rfl))
          (C8.pss_cut (ps_set (i := 9) nd rfl (.inl rfl) (pe_ifExp (pt_cmpR op_in_seq (pv 8) (pv 4) rfl) (pe_bm PySem.F.plainAttrs_list PySem.F.slot_list_index PySem.F.type_list_index mt_index (pv 4) (pa_cons (pv 8) pa_nil)) pe_non))
            (pss_one (ps_if (pt_cmpR op_ne (pe_callB (Gd.call_reprD hgd hr.units) (by rfl) T.z_repr (by decide +kernel) (pa_cons (pe_call G_times_to hr (by rfl) T.m_times_to T.F_times_to.kp T.b_times_to .nil pass0 (pa_cons (pv 1) (pa_cons (pv 2) (pa_cons (pv 8) pa_nil)))) pa_nil)) (pe_callB (Gd.call_reprD hgd hr.units) (by rfl) T.z_repr (by decide +kernel) (pa_cons (pv 9) pa_nil)) (nomark _))
                (pss_one (ps_ret pe_bl))
                pss_nil))))
      (pss_cons (ps_setLc (i := 10) (own := [("_law_sign", 11)]) rfl nd rfl rfl (sw_true rfl rfl rfl (by decide +kernel)) (pi_str (pv 1)) (blkOk_by (own := [("_law_sign", 11)]) (N := N__law_right) (sc := defScope s__law_right) (by decide +kernel)) (fun _ _ _ _ _ => (pg_name (i := 11) nd rfl (.inl rfl))) (fun _ _ _ _ _ => (pts_one (pt_cmpR op_notIn_sign (pv 11) (pv 2) rfl))) (fun _ _ _ _ _ => (pv 11)))
      (C8.pss_cut (ps_set (i := 9) nd rfl (.inl rfl) (pe_ifExp (pt_cmpR (op_eqD hr.units) (pv 10) (pe_lst pa_nil) (nomark _)) (pe_join pe_str (pe_lc (own := [("_law_sign", 11)]) rfl nd (pi_str (pv 1)) (blkOk_by (own := [("_law_sign", 11)]) (N := N__law_right) (sc := defScope s__law_right) (by decide +kernel)) (fun _ _ _ _ _ => (pg_name (i := 11) nd rfl (.inl rfl))) (fun _ _ _ _ _ => pts_nil) (fun _ _ _ _ _ => (pe_ix ix_str (pv 1) (pe_m1 PySem.F.slot_str_index PySem.F.type_str_index Tx.mt_idx1 (pv 2) (pv 11)) (fun _ _ => rfl))))) (pe_tup (pa_cons pe_str (pa_cons (pe_ix ix_list (pv 10) pe_int (fun _ _ => rfl)) pa_nil)))))
      (pss_one (ps_ret (pe_and (pe_cmpR op_eq (pe_callB (Gd.call_reprD hgd hr.units) (by rfl) T.z_repr (by decide +kernel) (pa_cons (pe_call G_is_one_to_one hr (by rfl) T.m_is_one_to_one T.F_is_one_to_one.kp T.b_is_one_to_one .nil pass0 (pa_cons (pv 1) (pa_cons (pv 2) pa_nil))) pa_nil)) (pe_callB (Gd.call_reprD hgd hr.units) (by rfl) T.z_repr (by decide +kernel) (pa_cons (pe_cmpR (op_eqD hr.units) (pv 10) (pe_lst pa_nil) (nomark _)) pa_nil)) (nomark _)) (pe_one (pe_cmpR (op_eqD hr.units) (pe_call G__law_turned hr (by rfl) T.m__law_turned T.F__law_turned.kp T.b__law_turned .nil pass0 (pa_cons (pv 1) (pa_cons (pv 2) pa_nil))) (pv 9) (nomark _)))))))))))))), ?_⟩
    have h4 := hS.len
    have hmS := hm.len
    have smS : ∀ c ∈ S, c < 128 := hS.sm
    -- all_of, at
    refine ⟨_, rfl, _, rfl, S, m, rfl, hS, hm, fun L i la t H1 hc hL nl nt nlt s1 e1 e2 => ?_⟩
    refine ⟨t, _, rfl, .inl (.inl e2), rfl, _, _, rfl, _, _, rfl, rfl, ?_⟩
    have hiL := hc.lt
    have F1 := F.same s1
    have k1 : Keep d H H1 := Keep.of_same s1
    -- times
    refine ⟨_, rfl, _, rfl, d, l, cs, _, _, rfl, F1, by omega, by decide, by decide, fun r2 H2 hr2 F2 k2 => ?_⟩
    refine ⟨_, _, rfl, rfl, ⟨by decide, by decide, by decide⟩, _, _, rfl, rfl, ⟨by decide, by decide, by decide⟩, _, rfl, d, l, cs, _, _, rfl, F2, by omega, by decide, by decide, fun r3 H3 hr3 F3 k3 => ?_⟩
    refine ⟨_, _, rfl, rfl, (by show 6 ≤ sizeLine; decide), fun p np => ?_⟩
    refine ⟨d, l, cs, _, .lst p, _, rfl, F3.same (same_new np), by omega, .inl (.inl upd_same), (by show 0 < 6; decide), (by show 6 < 1000; decide), fun x H4 hx F4 k4 => ?_⟩
    have kk4 : Keep d H1 H4 := ((k2.trans k3).trans (keep_new np)).trans k4
    have e4 : H4 la = some (.lst (pV S m L)) := F1.lst kk4 e1
    have k04 : Keep d H H4 := k1.trans kk4
    obtain ⟨times, rfl⟩ : ∃ n : Nat, x = .int (n : Int) := by
      have : x = .int 0 ∨ x = .int 1 ∨ x = .int 2 ∨ x = .int (r2 : Int) ∨ x = .int ((10 : Int) ^ (60 : Int).toNat) ∨ x = .int ((10 : Int) ^ (59 : Int).toNat + (r3 : Int)) := by simpa using hx
      rcases this with h | h | h | h | h | h
      · exact ⟨0, h⟩
      · exact ⟨1, h⟩
      · exact ⟨2, h⟩
      · exact ⟨r2, h⟩
      · exact ⟨10 ^ 60, h⟩
      · exact ⟨10 ^ 59 + r3, h⟩
    clear hx np
    -- spot
    refine ⟨fun σ H' => ∃ spot : Nat, spot < L ∧ M33.P S m times = M33.P S m spot ∧ H4 = H' ∧ σ = [some (.ref d), some (.str (tx S)), some (.str (tx m)), some (.str (tx o)), some (.ref la), some (.int (i : Int)), some (.int (times : Int)), some (.int (spot : Int)), none, none, none, none], ?_, ?_⟩
    · refine ⟨_, rfl, _, rfl, la, _, rfl, .inl (.inl (.inl e4)), _, _, rfl, rfl, _, rfl, ite2 (fun c => ?_) (fun c => ?_)⟩
      · have hlt : times < L := by
          have : (times : Int) < ((pV S m L).length : Int) := by simpa using c
          rw [pV_len] at this
          omega
        exact ⟨_, rfl, times, hlt, rfl, rfl, rfl⟩
      · have hge : L ≤ times := by
          have : ¬ ((times : Int) < ((pV S m L).length : Int)) := by simpa using c
          rw [pV_len] at this
          omega
        refine ⟨_, rfl, _, rfl, _, rfl, _, _, rfl, rfl, _, rfl, la, _, rfl, .inl (.inl (.inl e4)), _, rfl, _, _, rfl, rfl, _, _, rfl, rfl, ?_, _, _, rfl, rfl, i + (times - i) % (L - i), ?_, hc.far hS.nd hm hge, rfl, ?_⟩
        · show (0 : Int) < ((pV S m L).length : Int) - (i : Int)
          rw [pV_len]
          omega
        · have := Nat.mod_lt (times - i) (show 0 < L - i by omega)
          omega
        · rw [pV_len]
          have e5 : ((i + (times - i) % (L - i) : Nat) : Int) = (i : Int) + ((times : Int) - (i : Int)) % ((L : Int) - (i : Int)) := by
            rw [Int.natCast_add, Int.natCast_emod, Int.ofNat_sub (by omega), Int.ofNat_sub (by omega)]
          rw [e5]
          rfl
    · rintro σ H' ⟨spot, hspot, hP, rfl, rfl⟩
      have Psm := P_sm hS hm
      have Pln : ∀ j, (M33.P S m j).length ≤ 100 := fun j => by
        have := (hm.P j).len
        omega
      -- power
      refine ⟨_, rfl, _, rfl, _, rfl, S, m, times, rfl, hS, hm, fun H5 s5 => ?_⟩
      have e5 := s5 _ _ e4
      obtain ⟨dd, hdd, edd⟩ := (rp_tx (Pln times) (Psm times))
      refine ⟨_, dd, rfl, hdd.dp, hdd.sh, hdd.nd, hdd.de, hdd.sz, ?_⟩
      rw [edd]
      clear edd hdd dd
      refine ⟨_, rfl, _, rfl, la, _, _, _, rfl, rfl, .inl (.inl e5), atI_nat (pV_at hspot), ?_⟩
      obtain ⟨dd, hdd, edd⟩ := (rp_tx (Pln spot) (Psm spot))
      refine ⟨_, dd, rfl, hdd.dp, hdd.sh, hdd.nd, hdd.de, hdd.sz, ?_⟩
      rw [edd]
      clear edd hdd dd
      rw [hP]
      refine ⟨rfl, _, rfl, iteNN rfl ?_⟩
      -- map_round
      refine ⟨_, rfl, _, rfl, S, m, rfl, hS, hm, fun L' i' t6 H6 hc' hL' nt6 s6 e6 => ?_⟩
      obtain ⟨rfl, rfl⟩ := hc.same hc'
      obtain ⟨dd, hdd, edd⟩ := (rp_pair (by omega) (by omega) e6)
      refine ⟨_, dd, rfl, hdd.dp, hdd.sh, hdd.nd, hdd.de, hdd.sz, ?_⟩
      rw [edd]
      clear edd hdd dd
      have e6l := s6 _ _ e5
      refine ⟨_, rfl, _, rfl, la, _, rfl, .inl (.inl (.inl e6l)), _, rfl, _, _, rfl, rfl, (by show 2 ≤ sizeLine; decide), fun t7 nt7 => ?_⟩
      have e8 : (upd H6 t7 (.tup [.int (i : Int), .int (((pV S m L).length : Int) - i)])) t7 = some (.tup [.int (i : Int), .int ((L : Int) - i)]) := by rw [upd_same, pV_len]
      obtain ⟨dd, hdd, edd⟩ := (rp_pair (by omega) (by omega) e8)
      refine ⟨_, dd, rfl, hdd.dp, hdd.sh, hdd.nd, hdd.de, hdd.sz, ?_⟩
      rw [edd]
      clear edd hdd dd
      refine ⟨rfl, _, rfl, iteNN rfl ?_⟩
      have s47 : Same H4 (upd H6 t7 (.tup [.int (i : Int), .int (((pV S m L).length : Int) - i)])) := (s5.trans s6).trans (same_new nt7)
      generalize upd H6 t7 (.tup [.int (i : Int), .int (((pV S m L).length : Int) - i)]) = H7 at s47 ⊢
      have e7 := s47 _ _ e4
      have F7 := F4.same s47
      have k07 : Keep d H H7 := k04.trans (Keep.of_same s47)
      clear e6 e6l e5 nt7 nt6
      -- the goals
      refine ⟨fun σ H' => FeedAt H' d l cs (n + 4) ∧ Keep d H H' ∧ ∃ y8 y9, σ = [some (.ref d), some (.str (tx S)), some (.str (tx m)), some (.str (tx o)), some (.ref la), some (.int (i : Int)), some (.int (times : Int)), some (.int (spot : Int)), y8, y9, none, none], ?_, ?_⟩
      · refine ⟨_, rfl, _, rfl, d, l, cs, _, .lst la, _, rfl, F7, by omega, .inl (.inl e7), (by rw [pV_len]; omega), (by rw [pV_len]; omega), fun x H8 hx F8 k8 => ?_⟩
        obtain ⟨j8, hj8, rfl⟩ : ∃ j, j < L ∧ x = .str (tx (M33.P S m j)) := by
          obtain ⟨j, hj, e⟩ := List.mem_map.mp hx
          exact ⟨j, List.mem_range.mp hj, e.symm⟩
        have e8 := F7.lst k8 e7
        refine ⟨_, rfl, (by show 2 ≤ sizeLine; decide), fun t9 nt9 => ⟨t9, rfl, ⟨_, .inl (.inl upd_same)⟩, ?_⟩⟩
        have e9 : (upd H8 t9 (.tup [.str (tx (M33.P S m j8)), .str (tx o)])) t9 = some (.tup [.str (tx (M33.P S m j8)), .str (tx o)]) := upd_same
        have s89 : Same H8 (upd H8 t9 (.tup [.str (tx (M33.P S m j8)), .str (tx o)])) := same_new nt9
        generalize upd H8 t9 (.tup [.str (tx (M33.P S m j8)), .str (tx o)]) = H9 at e9 s89 ⊢
        have k09 : Keep d H H9 := (k07.trans k8).trans (Keep.of_same s89)
        have F9 := F8.same s89
        have e9l := s89 _ _ e8
        refine for_it (walk_tup (K := K) (a := t9) (xs := [.str (tx (M33.P S m j8)), .str (tx o)])) (fun j σ H' => Same H9 H' ∧ ∃ y8 y9, σ = [some (.ref d), some (.str (tx S)), some (.str (tx m)), some (.str (tx o)), some (.ref la), some (.int (i : Int)), some (.int (times : Int)), some (.int (spot : Int)), y8, y9, none, none])
          ⟨fun _ _ z => z, none, none, rfl⟩ (fun _ _ _ _ h => .inl (.inl (h.1 _ _ e9))) ?_ ?_
        · rintro j x σ H10 H11 hj ⟨s10, y8, y9, rfl⟩ ⟨rfl, hxj⟩
          obtain ⟨g, rfl⟩ : ∃ g, x = .str (tx g) := by
            have := List.mem_of_getElem? hxj
            have : x = .str (tx (M33.P S m j8)) ∨ x = .str (tx o) := by simpa using this
            rcases this with h | h
            · exact ⟨_, h⟩
            · exact ⟨_, h⟩
          have e10 := s10 _ _ e9l
          refine ⟨fun σ H' => H11 = H' ∧ ∃ v, IsTimes S m g v ∧ σ = [some (.ref d), some (.str (tx S)), some (.str (tx m)), some (.str (tx o)), some (.ref la), some (.int (i : Int)), some (.int (times : Int)), some (.int (spot : Int)), some (.str (tx g)), some v, none, none], ?_, ?_⟩
          · refine ⟨_, rfl, _, rfl, la, _, rfl, .inl (.inl (.inl e10)), rfl, pV_flat _ _ _, _, rfl, ?_⟩
            rw [if_neg (show ¬ ((false : Bool) = true) from Bool.false_ne_true), pV_in]
            by_cases hin : ∃ j, j < L ∧ M33.P S m j = g
            · refine iteY hin ?_
              obtain ⟨j2, hj2, ej2⟩ := hin
              refine ⟨_, rfl, .inl ⟨rfl, _, SqL.of e10⟩, _, rfl, la, _, _, j2, _, rfl, rfl, .inl (.inl e10), rfl, pV_flat _ _ _, pV_at hj2, (by rw [eqs, decide_eq_true_iff]; exact ej2), ?_, rfl, _, ⟨L, i, hc, hL, .inl ⟨j2, hj2, ej2, rfl⟩⟩, rfl⟩
              intro x z' hx hz
              obtain ⟨hi2, rfl⟩ := pV_at' hz
              rw [eqs, decide_eq_false_iff_not, ← ej2]
              exact hc.ne x j2 hx hj2
            · exact iteN hin ⟨rfl, _, ⟨L, i, hc, hL, .inr ⟨fun j hj e => hin ⟨j, hj, e⟩, rfl⟩⟩, rfl⟩
          · rintro σ' H' ⟨rfl, v, hv, rfl⟩
            refine ⟨_, rfl, _, rfl, _, rfl, S, m, g, rfl, hS, hm, fun v' H12 hv' s12 => ?_⟩
            have evv := hv'.same hv
            subst evv
            obtain ⟨dd, hdd, edd⟩ := (rp_time hv')
            refine ⟨_, dd, rfl, hdd.dp, hdd.sh, hdd.nd, hdd.de, hdd.sz, ?_⟩
            rw [edd]
            clear edd hdd dd
            refine ⟨_, rfl, ?_⟩
            obtain ⟨dd, hdd, edd⟩ := (rp_time hv')
            refine ⟨_, dd, rfl, hdd.dp, hdd.sh, hdd.nd, hdd.de, hdd.sz, ?_⟩
            rw [edd]
            clear edd hdd dd
            exact ⟨rfl, _, rfl, iteNN rfl ⟨s10.trans s12, _, _, rfl⟩⟩
        · rintro σ H10 ⟨s10, y8, y9, rfl⟩
          exact ⟨F9.same s10, k09.trans (Keep.of_same s10), y8, y9, rfl⟩
      · rintro σ H8 ⟨F8, k08, y8, y9, rfl⟩
        -- lost
        refine ⟨_, rfl, _, rfl, fun D nD => ?_⟩
        refine lc_it walk_str (PvF H8 D fun i => sV (lostF S m i)) ⟨same_new nD, upd_same⟩ (fun _ _ _ _ => trivial) (fun j x H9 H10 hj hP hY => ?_) (fun H9 hP => ?_)
        · obtain ⟨rfl, c, hcc, rfl⟩ := hY
          have hc' := tx_at hcc
          have sl := lostF_len S m j
          refine ⟨rfl, _, rfl, _, rfl, c, _, rfl, rfl, _, rfl, ?_⟩
          rw [tx_cps]
          by_cases hin : c ∈ m
          · refine iteNN hin (pvf_skip hP ?_)
            show sV (lostF S m (j + 1)) = _
            rw [lostF_no hc' hin]
          · refine iteNY hin ⟨_, rfl, pvf_snoc nD (by rw [sV_len]; omega) hP ?_⟩
            show sV (lostF S m (j + 1)) = _
            rw [lostF_yes hc' hin, sV_app]
            rfl
        · obtain ⟨s9, e9⟩ := hP
          have elost : lostF S m (tx S).cps.size = S.filter fun c => !decide (c ∈ m) := by
            unfold lostF
            rw [List.take_of_length_le]
            exact Nat.le_of_eq (tx_len S).symm
          replace e9 : H9 D = some (.lst (sV (lostF S m (tx S).cps.size))) := e9
          rw [elost] at e9
          have k09 : Keep d H H9 := k08.trans (Keep.of_same s9)
          have F9 := F8.same s9
          generalize hLo : (S.filter fun c => !decide (c ∈ m)) = lo at e9
          have smlo : ∀ c ∈ lo, c < 128 := fun c hc => smS c (by rw [← hLo] at hc; exact (List.mem_filter.mp hc).1)
          -- due
          refine ⟨fun σ H' => Same H9 H' ∧ ∃ v y8, σ = [some (.ref d), some (.str (tx S)), some (.str (tx m)), some (.str (tx o)), some (.ref la), some (.int (i : Int)), some (.int (times : Int)), some (.int (spot : Int)), y8, some v, some (.ref D), none] ∧
            ((lo = [] ∧ v = .str (tx (turnM S m))) ∨ ∃ c r t, lo = c :: r ∧ v = .ref t ∧ H' t = some (.tup [.str ("none" : Str), .str (sg c)])), ?_, ?_⟩
          · refine ⟨_, rfl, Nat.zero_le _, fun p np => ?_⟩
            have e10 : (upd H9 p (.lst [])) D = some (.lst (sV lo)) := by
              rw [upd_ne (ne_of_none e9 np)]
              exact e9
            have s10 : Same H9 (upd H9 p (.lst [])) := same_new np
            refine ⟨_, _, .lst (.inl (.inl e10)) (dp_signs lo), .lst (.inl (.inl upd_same)) .nil, ok_signs smlo, (by decide), _, rfl, ?_⟩
            rw [eqv_nilD]
            generalize upd H9 p (.lst []) = H10 at e10 s10 ⊢
            cases lo with
            | nil =>
              refine iteT ?_
              have hall' : ∀ c ∈ S, c ∈ m := filter_nil_iff.mp hLo
              refine ⟨⟨_, rfl⟩, _, rfl, _, rfl, fun D2 nD2 => ?_⟩
              refine lc_it walk_str (PvL H10 D2 (sV (turnM S m))) (pvl0 nD2) (fun _ _ _ _ => trivial) (fun i x H2 H3 hi hP hY => ?_) (fun H11 hP => ?_)
              · obtain ⟨rfl, c, hc, rfl⟩ := hY
                have hc' := tx_at hc
                have hcm : c ∈ m := hall' c (List.mem_of_getElem? hc')
                have hlt := List.idxOf_lt_length_of_mem hcm
                refine ⟨rfl, _, rfl, _, rfl, ⟨_, rfl⟩, _, rfl, m, c, _, rfl, rfl, idx_at hcm, idx_first, _, _, _, rfl, rfl, tx_small (b := S) (by omega), getD_at (by omega), pvl_snoc nD2 ?_ hP ?_⟩
                · rw [sV_len, turnM_len]
                  omega
                · refine sV_at ?_
                  unfold turnM
                  rw [List.getElem?_map, hc']
                  rfl
              · obtain ⟨s11, e11⟩ := pvl_end hP (by rw [sV_len, turnM_len]; exact Nat.le_of_eq (tx_len S).symm)
                obtain ⟨a', p', ys, ea, ep, h1, h2, h3⟩ := joinQ (K := K) (Q := fun v _ => v = .str (tx (turnM S m))) e11 (by rw [turnM_len]; omega) rfl
                cases ea
                cases ep
                refine ⟨_, _, ys, rfl, rfl, h1, h2, ?_⟩
                rw [h3]
                exact ⟨s10.trans s11, _, _, rfl, .inl ⟨rfl, rfl⟩⟩
            | cons c r =>
              refine iteF ?_
              refine ⟨_, rfl, D, _, 0, .str (sg c), rfl, rfl, .inl (.inl e10), (show atI (sV (c :: r)) ((0 : Nat) : Int) = some (.str (sg c)) from atI_nat rfl), (by show 2 ≤ sizeLine; decide), fun t2 nt2 => ?_⟩
              exact ⟨s10.trans (same_new nt2), _, _, rfl, .inr ⟨c, r, t2, rfl, rfl, upd_same⟩⟩
          · rintro σ H10 ⟨s10, v, y8, rfl, hv⟩
            have e10 := s10 _ _ e9
            have F10 := F9.same s10
            have k010 : Keep d H H10 := k09.trans (Keep.of_same s10)
            refine ⟨_, rfl, _, rfl, S, m, rfl, h4, fun H11 s11 => ?_⟩
            obtain ⟨dd, hdd, edd⟩ := (rp_bl)
            refine ⟨_, dd, rfl, hdd.dp, hdd.sh, hdd.nd, hdd.de, hdd.sz, ?_⟩
            rw [edd]
            clear edd hdd dd
            have e11 := s11 _ _ e10
            refine ⟨_, rfl, Nat.zero_le _, fun p np => ?_⟩
            have e12 : (upd H11 p (.lst [])) D = some (.lst (sV lo)) := by
              rw [upd_ne (ne_of_none e11 np)]
              exact e11
            have s12 : Same H10 (upd H11 p (.lst [])) := s11.trans (same_new np)
            refine ⟨_, _, .lst (.inl (.inl e12)) (dp_signs lo), .lst (.inl (.inl upd_same)) .nil, ok_signs smlo, (by decide), ?_⟩
            rw [eqv_nilD]
            generalize upd H11 p (.lst []) = H12 at e12 s12 ⊢
            obtain ⟨dd, hdd, edd⟩ := (rp_bl)
            refine ⟨_, dd, rfl, hdd.dp, hdd.sh, hdd.nd, hdd.de, hdd.sz, ?_⟩
            rw [edd]
            clear edd hdd dd
            have eb : (S.all fun c => decide (c ∈ m)) = (lo.map fun c => PyData.str (sg c)).isEmpty := by
              rw [Bool.eq_iff_iff, List.all_eq_true, List.isEmpty_iff, List.map_eq_nil_iff, ← hLo, filter_nil_iff]
              exact ⟨fun h c hc => by simpa using h c hc, fun h c hc => by simpa using h c hc⟩
            rw [eb]
            refine ⟨rfl, _, rfl, iteY rfl ?_⟩
            refine ⟨_, rfl, _, rfl, S, m, rfl, hS, hm, fun H13 s13 hall => ?_, fun c t H13 hl s13 e13 => ?_⟩
            · rcases hv with ⟨hlo, rfl⟩ | ⟨c, r, t, hlo, rfl, et⟩
              · refine ⟨_, rfl, .str _, .str _, .str _, .str _, ok_tx (turn_sm hS), ok_tx (turn_sm hS), ?_⟩
                have ee : PyData.eqv (.str (tx (turnM S m))) (.str (tx (turnM S m))) = true := by simp [PyData.eqv]
                rw [ee]
                exact q _ (F10.same (s12.trans s13)) (k010.trans (Keep.of_same (s12.trans s13)))
              · rw [filter_nil_iff.mpr hall] at hLo
                rw [← hLo] at hlo
                cases hlo
            · obtain ⟨r', hr'⟩ := lost_head hl
              rcases hv with ⟨hlo, rfl⟩ | ⟨c', r, t', hlo, rfl, et⟩
              · rw [hLo, hlo] at hr'
                cases hr'
              · rw [hLo, hlo] at hr'
                cases hr'
                have hc128 : c < 128 := smlo c (by rw [hlo]; exact List.mem_cons_self)
                refine ⟨_, rfl, .tuple [.str ("none" : Str), .str (sg c)], .tuple [.str ("none" : Str), .str (sg c)], .tup (.inl (.inl e13)) (.cons (.str _) (.cons (.str _) .nil)), .tup (.inl (.inl (s13 _ _ (s12 _ _ et)))) (.cons (.str _) (.cons (.str _) .nil)), ok_pair hc128, ok_pair hc128, ?_⟩
                have ee : PyData.eqv (.tuple [.str ("none" : Str), .str (sg c)]) (.tuple [.str ("none" : Str), .str (sg c)]) = true := by simp [PyData.eqv, PyData.eqvAll]
                rw [ee]
                exact q _ (F10.same (s12.trans s13)) (k010.trans (Keep.of_same (s12.trans s13)))
end
end K33
set_option Elab.async false
set_option linter.all false
set_option maxRecDepth 100000
set_option maxHeartbeats 4000000
namespace K33
open PySem PySem.Spec PyProof.Rows L2 Fd Tx
open M33 hiding P
section
variable {P : Program} {w : World} {K : PySem.W.Frag} {mg : Str → Option Value} {base : Heap} {B : Fs} {k : Nat}
def spLaw (K : PySem.W.Frag) : Sp := fun vs H Q _ => ∃ (a : Addr) (ns : List Int), vs = [.ref a] ∧ SqL K H a (ns.map V.int) ∧ ns.length ≤ 63 ∧ ∀ H', Q (.bl true) H'
theorem src_sm {S m : List Nat} (hS : Sg S) (c i : Nat) : ∀ x ∈ src S m c i, x < 128 := by
  intro x hx
  obtain ⟨j, _, e⟩ := List.mem_filterMap.mp hx
  by_cases h : m.getD j 0 = c
  · rw [if_pos h] at e
    cases e
    by_cases hl : j < S.length
    · exact hS.sm _ (getD_mem hl)
    · rw [List.getD_eq_getElem?_getD, List.getElem?_eq_none (by omega)]
      decide
  · rw [if_neg h] at e
    cases e
abbrev N_law : List Str := ["_law_script", "_law_feed_here", "_law_turn", "_law_signs_here", "_law_one", "_law_other", "_law_sign", "_law_due", "_law_k"]
theorem sc_law : FnScope N_law ["_law_script"] (defScope s_law) :=
  ⟨rfl, rfl, rfl, by decide +kernel, rfl, by decide +kernel, by decide +kernel⟩
theorem ok_law {f : Addr} {fd : FuncData} (F : Fun K "law" "law" s_law f fd) (T : Txt K mg B) : Gd.FnOkG P w K mg base CX0 7 f fd ["_law_script"] (spLaw K) := by
  have G__law_feed : FnOk P w K mg base CX0 6 B.f__law_feed B.d__law_feed ["_law_script"] (spFeed K) := ok__law_feed T
  have G__law_draw : FnOk P w K mg base CX0 6 B.f__law_draw B.d__law_draw ["_law_feed_here", "_law_many"] spDraw := ok__law_draw T
  have G__law_signs : FnOk P w K mg base CX0 6 B.f__law_signs B.d__law_signs ["_law_feed_here", "_law_many"] spSigns := ok__law_signs (k := 3) T
  have G__law_any_map : FnOk P w K mg base CX0 6 B.f__law_any_map B.d__law_any_map ["_law_feed_here", "_law_signs_here"] (spMap 5) := ok__law_any_map (k := 3) T
  have G__law_then : FnOk P w K mg base CX0 6 B.f__law_then B.d__law_then ["_law_signs_here", "_law_one", "_law_other"] spTog := ok__law_then T
  have G_together : FnOk P w K mg base CX0 6 B.f_together B.d_together ["signs", "one", "other"] spTog := ok_together T
  have G_sources : FnOk P w K mg base CX0 6 B.f_sources B.d_sources ["signs", "one", "sign"] spSrc := ok_sources T
  have G__law_right : Gd.FnOkG P w K mg base CX0 6 B.f__law_right B.d__law_right ["_law_feed_here", "_law_signs_here", "_law_one", "_law_other"] spRight := ok__law_right (k := 0) T
  refine Gd.okG F sc_law (fun vs H Q E h => ?_) (fun cdv A outer s H vs Q E hgd hr h => ?_)
  · obtain ⟨a, ns, rfl, _⟩ := h
    rfl
  · obtain ⟨a, ns, rfl, hS, hlen, q⟩ := h
    have nd := sc_law.nd
    refine ⟨_, (pss_cons (ps_set (i := 1) nd rfl (.inl rfl) (pe_call G__law_feed hr (by rfl) T.m__law_feed T.F__law_feed.kp T.b__law_feed .nil pass0 (pa_cons (pv 0) pa_nil)))
      (pss_cons (ps_for PassesOwn.never rfl (pi_range1 (by rfl) T.z_range (pa_cons pe_int pa_nil)) (pg_name (i := 2) nd rfl (.inl rfl))
          (pss_cons (ps_set (i := 3) nd rfl (.inr rfl) (pe_call G__law_signs hr (by rfl) T.m__law_signs T.F__law_signs.kp T.b__law_signs .nil pass0 (pa_cons (pv 1) (pa_cons (pe_op op_add pe_int (pe_call G__law_draw hr (by rfl) T.m__law_draw T.F__law_draw.kp T.b__law_draw .nil pass0 (pa_cons (pv 1) (pa_cons pe_int pa_nil)))) pa_nil))))
            (pss_cons (ps_asg (pe_tup (pa_cons (pe_call G__law_any_map hr (by rfl) T.m__law_any_map T.F__law_any_map.kp T.b__law_any_map .nil pass0 (pa_cons (pv 1) (pa_cons (pv 3) pa_nil))) (pa_cons (pe_call G__law_any_map hr (by rfl) T.m__law_any_map T.F__law_any_map.kp T.b__law_any_map .nil pass0 (pa_cons (pv 1) (pa_cons (pv 3) pa_nil))) pa_nil))) (pg_tup rfl (pgs_cons (pg_name (i := 4) nd rfl (.inr rfl)) (pgs_cons (pg_name (i := 5) nd rfl (.inl rfl)) pgs_nil))))
            (pss_cons (ps_if (pt_cmpR op_ne (pe_callB (Gd.call_reprD hgd hr.units) (by rfl) T.z_repr (by decide +kernel) (pa_cons (pe_call G_together hr (by rfl) T.m_together T.F_together.kp T.b_together .nil pass0 (pa_cons (pv 3) (pa_cons (pv 4) (pa_cons (pv 5) pa_nil)))) pa_nil)) (pe_callB (Gd.call_reprD hgd hr.units) (by rfl) T.z_repr (by decide +kernel) (pa_cons (pe_call G__law_then hr (by rfl) T.m__law_then T.F__law_then.kp T.b__law_then .nil pass0 (pa_cons (pv 3) (pa_cons (pv 4) (pa_cons (pv 5) pa_nil)))) pa_nil)) (nomark _))
                (pss_one (ps_ret pe_bl))
                pss_nil)
            (pss_cons (ps_for PassesOwn.never rfl (pi_str (pv 3)) (pg_name (i := 6) nd rfl (.inr rfl))
                (pss_cons (ps_set (i := 7) nd rfl (.inl rfl) (pe_join pe_str (pe_lc (own := [("_law_k", 8)]) rfl nd (pi_range1 (by rfl) T.z_range (pa_cons (pe_callB call_len_str (by rfl) T.z_len (by decide +kernel) (pa_cons (pv 3) pa_nil)) pa_nil)) (blkOk_by (own := [("_law_k", 8)]) (N := N_law) (sc := defScope s_law) (by decide +kernel)) (fun _ _ _ _ _ => (pg_name (i := 8) nd rfl (.inl rfl))) (fun _ _ _ _ _ => (pts_one (pt_cmpR op_eq (pe_ix ix_str (pv 4) (pv 8) (fun _ _ => rfl)) (pv 6) (nomark _)))) (fun _ _ _ _ _ => (pe_ix ix_str (pv 3) (pv 8) (fun _ _ => rfl))))))
                  (pss_one (ps_if (pt_cmpR op_ne (pe_callB (Gd.call_reprD hgd hr.units) (by rfl) T.z_repr (by decide +kernel) (pa_cons (pe_call G_sources hr (by rfl) T.m_sources T.F_sources.kp T.b_sources .nil pass0 (pa_cons (pv 3) (pa_cons (pv 4) (pa_cons (pv 6) pa_nil)))) pa_nil)) (pe_callB (Gd.call_reprD hgd hr.units) (by rfl) T.z_repr (by decide +kernel) (pa_cons (pv 7) pa_nil)) (nomark _))
                      (pss_one (ps_ret pe_bl))
                      pss_nil))))
            (pss_one (ps_if (pt_not (pt_val (Gd.pe_callG G__law_right hgd hr (by rfl) T.m__law_right T.F__law_right.kp T.b__law_right .nil pass0 (pa_cons (pv 1) (pa_cons (pv 3) (pa_cons (pv 4) (pa_cons (pv 5) pa_nil)))))))
                (pss_one (ps_ret pe_bl))
                pss_nil)))))))
      (pss_one (ps_ret pe_bl)))), ?_⟩
    refine ⟨_, rfl, a, ns, rfl, hS, hlen, fun d l cs H0 nd0 nl0 F0 s0 => ?_⟩
    refine ⟨_, rfl, by decide, by decide, ?_⟩
    refine for_range (lo := 0) (fun i σ H' => FeedAt H' d l cs (20 * i) ∧ ∃ y2 y3 y4 y5 y6 y7, σ = [some (.ref a), some (.ref d), y2, y3, y4, y5, y6, y7, none])
      ⟨F0, none, none, none, none, none, none, rfl⟩ ?_ ?_
    · rintro i σ H1 hi ⟨F1, y2, y3, y4, y5, y6, y7, rfl⟩
      have hi6 : i < 6 := hi
      refine ⟨_, rfl, _, rfl, d, l, cs, _, _, rfl, F1, by omega, by decide, by decide, fun r H2 hr2 F2 k2 => ?_⟩
      have hr3 : r < 3 := by omega
      have er : (2 : Int) + (r : Int) = ((2 + r : Nat) : Int) := by omega
      refine ⟨_, _, rfl, rfl, d, l, cs, _, 2 + r, (by show [V.ref d, V.int ((2 : Int) + (r : Int))] = _; rw [er]), F2, by omega, by omega, by omega, fun S H3 hSg F3 k3 => ?_⟩
      refine ⟨_, rfl, _, rfl, d, l, cs, _, S, rfl, F3, by omega, hSg, fun m H4 hm F4 k4 => ?_⟩
      refine ⟨_, rfl, _, rfl, d, l, cs, _, S, rfl, F4, by omega, hSg, fun o H5 ho F5 k5 => ?_⟩
      refine ⟨(by show 2 ≤ sizeLine; decide), fun t nt => ⟨t, _, rfl, .inl (.inl upd_same), rfl, _, _, rfl, _, _, rfl, rfl, ?_⟩⟩
      have F6 : FeedAt (upd H5 t (.tup [.str (tx m), .str (tx o)])) d l cs _ := F5.same (same_new nt)
      generalize upd H5 t (.tup [.str (tx m), .str (tx o)]) = H6 at F6 ⊢
      have h4 := hSg.len
      have hml := hm.len
      have hmo := hm.tog ho
      -- together
      refine ⟨_, rfl, _, rfl, _, rfl, S, m, o, rfl, h4, hm, ho.len, fun H7 s7 => ?_⟩
      obtain ⟨dd, hdd, edd⟩ := (rp_tx (by rw [hmo.len]; omega) (fun c hc => hSg.sm c (hmo.mem c hc)))
      refine ⟨_, dd, rfl, hdd.dp, hdd.sh, hdd.nd, hdd.de, hdd.sz, ?_⟩
      rw [edd]
      clear edd hdd dd
      refine ⟨_, rfl, _, rfl, _, rfl, S, m, o, rfl, h4, hm, ho.len, fun H8 s8 => ?_⟩
      obtain ⟨dd, hdd, edd⟩ := (rp_tx (by rw [hmo.len]; omega) (fun c hc => hSg.sm c (hmo.mem c hc)))
      refine ⟨_, dd, rfl, hdd.dp, hdd.sh, hdd.nd, hdd.de, hdd.sz, ?_⟩
      rw [edd]
      clear edd hdd dd
      refine ⟨rfl, _, rfl, iteNN rfl ?_⟩
      have F8 := (F6.same s7).same s8
      -- sources
      refine ⟨_, rfl, _, rfl, ?_⟩
      refine for_it walk_str (fun j σ H' => Same H8 H' ∧ ∃ y6 y7, σ = [some (.ref a), some (.ref d), some (.int (0 + (i : Int))), some (.str (tx S)), some (.str (tx m)), some (.str (tx o)), y6, y7, none]) ⟨fun _ _ z => z, _, _, rfl⟩ (fun _ _ _ _ _ => trivial) ?_ ?_
      · rintro j x σ H9 H10 hj ⟨s9, y6, y7, rfl⟩ ⟨rfl, c, hc, rfl⟩
        have hls : (tx S).length = S.length := tx_len S
        refine ⟨⟨_, rfl⟩, _, rfl, _, rfl, tx_small (b := S) (by omega), _, rfl, by omega, by omega, fun D nD => ?_⟩
        refine lc_it walk_range (PvF H10 D fun i => sV (src S m c i)) ⟨same_new nD, upd_same⟩ (fun _ _ _ _ => trivial) (fun e x H11 H12 he hP hY => ?_) (fun H11 hP => ?_)
        · obtain ⟨rfl, rfl⟩ := hY
          have he' : e < S.length := by omega
          have sl := src_len S m c e
          have e0 : (0 : Int) + (e : Int) = (e : Int) := by omega
          refine ⟨rfl, _, rfl, _, rfl, _, _, m.getD e 0, rfl, rfl, tx_small (b := m) (by omega), (by rw [e0]; exact getD_at (by omega)), _, rfl, rfl, _, rfl, ?_⟩
          by_cases ec : m.getD e 0 = c
          · refine iteY (by rw [ec]) ⟨_, rfl, _, rfl, _, _, S.getD e 0, rfl, rfl, tx_small (b := S) (by omega), (by rw [e0]; exact getD_at (by omega)), pvf_snoc nD (by rw [sV_len]; omega) hP ?_⟩
            show sV (src S m c (e + 1)) = _
            rw [src_yes ec, sV_app]
            rfl
          · refine iteN (fun h => ec (sg_inj (V.str.inj h))) (pvf_skip hP ?_)
            show sV (src S m c (e + 1)) = _
            rw [src_no ec]
        · have sl := src_len S m c S.length
          have en : ((0 : Int) + ((tx S).length : Int) - 0).toNat = S.length := by omega
          obtain ⟨s11, e11⟩ := hP
          replace e11 : H11 D = some (.lst (sV (src S m c S.length))) := by
            rw [e11]
            show some (HO.lst (sV (src S m c _))) = _
            rw [show (((tx S).length : Int)).toNat = S.length by omega]
          obtain ⟨a', p', ys, ea, ep, h1, h2, h3⟩ := joinQ (K := K) (Q := fun v _ => v = .str (tx (src S m c S.length))) e11 (by omega) rfl
          cases ea
          cases ep
          refine ⟨_, _, ys, rfl, rfl, h1, h2, ?_⟩
          rw [h3]
          refine ⟨_, rfl, _, rfl, _, rfl, S, m, c, rfl, h4, hml, fun H13 s13 => ?_⟩
          obtain ⟨dd, hdd, edd⟩ := (rp_tx (cs := src S m c S.length) (by omega) (src_sm hSg c S.length))
          refine ⟨_, dd, rfl, hdd.dp, hdd.sh, hdd.nd, hdd.de, hdd.sz, ?_⟩
          rw [edd]
          clear edd hdd dd
          refine ⟨_, rfl, ?_⟩
          obtain ⟨dd, hdd, edd⟩ := (rp_tx (cs := src S m c S.length) (by omega) (src_sm hSg c S.length))
          refine ⟨_, dd, rfl, hdd.dp, hdd.sh, hdd.nd, hdd.de, hdd.sz, ?_⟩
          rw [edd]
          clear edd hdd dd
          exact ⟨rfl, _, rfl, iteNN rfl ⟨(s9.trans s11).trans s13, _, _, rfl⟩⟩
      · rintro σ H9 ⟨s9, y6, y7, rfl⟩
        refine ⟨_, rfl, _, rfl, _, rfl, _, rfl, d, l, cs, _, S, m, o, rfl, F8.same s9, by omega, hSg, hm, ho, fun H10 F10 k10 => ?_⟩
        refine ⟨_, rfl, iteF ?_⟩
        exact ⟨F10.mono (by omega), _, _, _, _, _, _, rfl⟩
    · rintro σ H1 ⟨F1, y2, y3, y4, y5, y6, y7, rfl⟩
      exact q _
end
end K33
set_option Elab.async false
set_option linter.all false
set_option maxRecDepth 100000
set_option maxHeartbeats 4000000
namespace K33
open PySem PySem.Spec PyProof.Rows L2 Fd Tx
theorem kit_LE {K : PySem.W.Frag} {C : Addr} (h : PySem.W.subIn K (.ref C) (.type "LookupError") = some true) : PySem.W.kitOne K (.ref C) (.type "LookupError") = some true := by
  have e : PySem.W.kitMeta "LookupError" = true := by decide +kernel
  show (if PySem.W.kitMeta "LookupError" = true then PySem.W.subIn K (.ref C) (.type "LookupError") else none) = some true
  rw [if_pos e]
  exact h
theorem all_mk {l : PySem.W.OpenLaw} {w : World} {K : PySem.W.Frag} {h : Heap} {mg : Str → Option Value} {fa C : Addr} (X : K.In h) (G : h.Ns mainGlobals mg) (hfa : mg "law" = some (.ref fa))
    {f1 f2 f3 f4 f5 f6 f7 f8 f9 f10 f11 f12 f13 f14 f15 f16 f17 f18 f19 f20 fI : Addr} {od1 an1 od2 an2 od3 an3 od4 an4 od5 an5 od6 an6 od7 an7 od8 an8 od9 an9 od10 an10 od11 an11 od12 an12 od13 an13 od14 an14 od15 an15 od16 an16 od17 an17 od18 an18 od19 an19 od20 an20 odI anI : Option Addr} {sl1 sl2 sl3 sl4 sl5 sl6 sl7 sl8 sl9 sl10 sl11 sl12 sl13 sl14 sl15 sl16 sl17 sl18 sl19 sl20 slI : Array (Option Value)}
    {oc1 kV1 dc1 pm1 cd1 ct1 oc2 kV2 dc2 pm2 cd2 ct2 oc3 kV3 dc3 pm3 cd3 ct3 oc4 kV4 dc4 pm4 cd4 ct4 oc5 kV5 dc5 pm5 cd5 ct5 oc6 kV6 dc6 pm6 cd6 ct6 oc7 kV7 dc7 pm7 cd7 ct7 oc8 kV8 dc8 pm8 cd8 ct8 oc9 kV9 dc9 pm9 cd9 ct9 oc10 kV10 dc10 pm10 cd10 ct10 oc11 kV11 dc11 pm11 cd11 ct11 oc12 kV12 dc12 pm12 cd12 ct12 oc13 kV13 dc13 pm13 cd13 ct13 oc14 kV14 dc14 pm14 cd14 ct14 oc15 kV15 dc15 pm15 cd15 ct15 oc16 kV16 dc16 pm16 cd16 ct16 oc17 kV17 dc17 pm17 cd17 ct17 oc18 kV18 dc18 pm18 cd18 ct18 oc19 kV19 dc19 pm19 cd19 ct19 oc20 kV20 dc20 pm20 cd20 ct20 ocI kVI dcI pmI cdI ctI : Value}
    {nm q : Str} {N : Addr} {bs : List Value} {sn : List Str} {sub : List Value} {ab : Bool} {col : Option Bool} {dd : Option Addr} {m0 m1 m2 m3 m5 : Option Value}
    (a1 : PySem.W.nsIn K mainGlobals "copied" = some (some (.ref f1))) (l1 : K.lookup f1 = some ⟨oc1, od1, .func (PySem.W.fnOf "copied" "copied" (defArgs s_copied) (defBody s_copied) (defScope s_copied) .none kV1 dc1 pm1 an1 cd1 ct1), sl1⟩) (c1 : PySem.W.codeIn K cd1 "copied" = true) (k1 : PySem.W.keepIn K (.ref f1) = true)
    (a2 : PySem.W.nsIn K mainGlobals "together" = some (some (.ref f2))) (l2 : K.lookup f2 = some ⟨oc2, od2, .func (PySem.W.fnOf "together" "together" (defArgs s_together) (defBody s_together) (defScope s_together) .none kV2 dc2 pm2 an2 cd2 ct2), sl2⟩) (c2 : PySem.W.codeIn K cd2 "together" = true) (k2 : PySem.W.keepIn K (.ref f2) = true)
    (a3 : PySem.W.nsIn K mainGlobals "power" = some (some (.ref f3))) (l3 : K.lookup f3 = some ⟨oc3, od3, .func (PySem.W.fnOf "power" "power" (defArgs s_power) (defBody s_power) (defScope s_power) .none kV3 dc3 pm3 an3 cd3 ct3), sl3⟩) (c3 : PySem.W.codeIn K cd3 "power" = true) (k3 : PySem.W.keepIn K (.ref f3) = true)
    (a4 : PySem.W.nsIn K mainGlobals "powers" = some (some (.ref f4))) (l4 : K.lookup f4 = some ⟨oc4, od4, .func (PySem.W.fnOf "powers" "powers" (defArgs s_powers) (defBody s_powers) (defScope s_powers) .none kV4 dc4 pm4 an4 cd4 ct4), sl4⟩) (c4 : PySem.W.codeIn K cd4 "powers" = true) (k4 : PySem.W.keepIn K (.ref f4) = true)
    (a5 : PySem.W.nsIn K mainGlobals "map_round" = some (some (.ref f5))) (l5 : K.lookup f5 = some ⟨oc5, od5, .func (PySem.W.fnOf "map_round" "map_round" (defArgs s_map_round) (defBody s_map_round) (defScope s_map_round) .none kV5 dc5 pm5 an5 cd5 ct5), sl5⟩) (c5 : PySem.W.codeIn K cd5 "map_round" = true) (k5 : PySem.W.keepIn K (.ref f5) = true)
    (a6 : PySem.W.nsIn K mainGlobals "times_to" = some (some (.ref f6))) (l6 : K.lookup f6 = some ⟨oc6, od6, .func (PySem.W.fnOf "times_to" "times_to" (defArgs s_times_to) (defBody s_times_to) (defScope s_times_to) .none kV6 dc6 pm6 an6 cd6 ct6), sl6⟩) (c6 : PySem.W.codeIn K cd6 "times_to" = true) (k6 : PySem.W.keepIn K (.ref f6) = true)
    (a7 : PySem.W.nsIn K mainGlobals "is_one_to_one" = some (some (.ref f7))) (l7 : K.lookup f7 = some ⟨oc7, od7, .func (PySem.W.fnOf "is_one_to_one" "is_one_to_one" (defArgs s_is_one_to_one) (defBody s_is_one_to_one) (defScope s_is_one_to_one) .none kV7 dc7 pm7 an7 cd7 ct7), sl7⟩) (c7 : PySem.W.codeIn K cd7 "is_one_to_one" = true) (k7 : PySem.W.keepIn K (.ref f7) = true)
    (a8 : PySem.W.nsIn K mainGlobals "turned_map" = some (some (.ref f8))) (l8 : K.lookup f8 = some ⟨oc8, od8, .func (PySem.W.fnOf "turned_map" "turned_map" (defArgs s_turned_map) (defBody s_turned_map) (defScope s_turned_map) .none kV8 dc8 pm8 an8 cd8 ct8), sl8⟩) (c8 : PySem.W.codeIn K cd8 "turned_map" = true) (k8 : PySem.W.keepIn K (.ref f8) = true)
    (a9 : PySem.W.nsIn K mainGlobals "sources" = some (some (.ref f9))) (l9 : K.lookup f9 = some ⟨oc9, od9, .func (PySem.W.fnOf "sources" "sources" (defArgs s_sources) (defBody s_sources) (defScope s_sources) .none kV9 dc9 pm9 an9 cd9 ct9), sl9⟩) (c9 : PySem.W.codeIn K cd9 "sources" = true) (k9 : PySem.W.keepIn K (.ref f9) = true)
    (a10 : PySem.W.nsIn K mainGlobals "_law_feed" = some (some (.ref f10))) (l10 : K.lookup f10 = some ⟨oc10, od10, .func (PySem.W.fnOf "_law_feed" "_law_feed" (defArgs s__law_feed) (defBody s__law_feed) (defScope s__law_feed) .none kV10 dc10 pm10 an10 cd10 ct10), sl10⟩) (c10 : PySem.W.codeIn K cd10 "_law_feed" = true) (k10 : PySem.W.keepIn K (.ref f10) = true)
    (a11 : PySem.W.nsIn K mainGlobals "_law_draw" = some (some (.ref f11))) (l11 : K.lookup f11 = some ⟨oc11, od11, .func (PySem.W.fnOf "_law_draw" "_law_draw" (defArgs s__law_draw) (defBody s__law_draw) (defScope s__law_draw) .none kV11 dc11 pm11 an11 cd11 ct11), sl11⟩) (c11 : PySem.W.codeIn K cd11 "_law_draw" = true) (k11 : PySem.W.keepIn K (.ref f11) = true)
    (a12 : PySem.W.nsIn K mainGlobals "_law_pick" = some (some (.ref f12))) (l12 : K.lookup f12 = some ⟨oc12, od12, .func (PySem.W.fnOf "_law_pick" "_law_pick" (defArgs s__law_pick) (defBody s__law_pick) (defScope s__law_pick) .none kV12 dc12 pm12 an12 cd12 ct12), sl12⟩) (c12 : PySem.W.codeIn K cd12 "_law_pick" = true) (k12 : PySem.W.keepIn K (.ref f12) = true)
    (a13 : PySem.W.nsIn K mainGlobals "_law_signs" = some (some (.ref f13))) (l13 : K.lookup f13 = some ⟨oc13, od13, .func (PySem.W.fnOf "_law_signs" "_law_signs" (defArgs s__law_signs) (defBody s__law_signs) (defScope s__law_signs) .none kV13 dc13 pm13 an13 cd13 ct13), sl13⟩) (c13 : PySem.W.codeIn K cd13 "_law_signs" = true) (k13 : PySem.W.keepIn K (.ref f13) = true)
    (a14 : PySem.W.nsIn K mainGlobals "_law_mixed" = some (some (.ref f14))) (l14 : K.lookup f14 = some ⟨oc14, od14, .func (PySem.W.fnOf "_law_mixed" "_law_mixed" (defArgs s__law_mixed) (defBody s__law_mixed) (defScope s__law_mixed) .none kV14 dc14 pm14 an14 cd14 ct14), sl14⟩) (c14 : PySem.W.codeIn K cd14 "_law_mixed" = true) (k14 : PySem.W.keepIn K (.ref f14) = true)
    (a15 : PySem.W.nsIn K mainGlobals "_law_any_map" = some (some (.ref f15))) (l15 : K.lookup f15 = some ⟨oc15, od15, .func (PySem.W.fnOf "_law_any_map" "_law_any_map" (defArgs s__law_any_map) (defBody s__law_any_map) (defScope s__law_any_map) .none kV15 dc15 pm15 an15 cd15 ct15), sl15⟩) (c15 : PySem.W.codeIn K cd15 "_law_any_map" = true) (k15 : PySem.W.keepIn K (.ref f15) = true)
    (a16 : PySem.W.nsIn K mainGlobals "_law_then" = some (some (.ref f16))) (l16 : K.lookup f16 = some ⟨oc16, od16, .func (PySem.W.fnOf "_law_then" "_law_then" (defArgs s__law_then) (defBody s__law_then) (defScope s__law_then) .none kV16 dc16 pm16 an16 cd16 ct16), sl16⟩) (c16 : PySem.W.codeIn K cd16 "_law_then" = true) (k16 : PySem.W.keepIn K (.ref f16) = true)
    (a17 : PySem.W.nsIn K mainGlobals "_law_all_powers" = some (some (.ref f17))) (l17 : K.lookup f17 = some ⟨oc17, od17, .func (PySem.W.fnOf "_law_all_powers" "_law_all_powers" (defArgs s__law_all_powers) (defBody s__law_all_powers) (defScope s__law_all_powers) .none kV17 dc17 pm17 an17 cd17 ct17), sl17⟩) (c17 : PySem.W.codeIn K cd17 "_law_all_powers" = true) (k17 : PySem.W.keepIn K (.ref f17) = true)
    (a18 : PySem.W.nsIn K mainGlobals "_law_turned" = some (some (.ref f18))) (l18 : K.lookup f18 = some ⟨oc18, od18, .func (PySem.W.fnOf "_law_turned" "_law_turned" (defArgs s__law_turned) (defBody s__law_turned) (defScope s__law_turned) .none kV18 dc18 pm18 an18 cd18 ct18), sl18⟩) (c18 : PySem.W.codeIn K cd18 "_law_turned" = true) (k18 : PySem.W.keepIn K (.ref f18) = true)
    (a19 : PySem.W.nsIn K mainGlobals "_law_right" = some (some (.ref f19))) (l19 : K.lookup f19 = some ⟨oc19, od19, .func (PySem.W.fnOf "_law_right" "_law_right" (defArgs s__law_right) (defBody s__law_right) (defScope s__law_right) .none kV19 dc19 pm19 an19 cd19 ct19), sl19⟩) (c19 : PySem.W.codeIn K cd19 "_law_right" = true) (k19 : PySem.W.keepIn K (.ref f19) = true)
    (a20 : PySem.W.nsIn K mainGlobals "law" = some (some (.ref f20))) (l20 : K.lookup f20 = some ⟨oc20, od20, .func (PySem.W.fnOf "law" "law" (defArgs s_law) (defBody s_law) (defScope s_law) .none kV20 dc20 pm20 an20 cd20 ct20), sl20⟩) (c20 : PySem.W.codeIn K cd20 "law" = true) (k20 : PySem.W.keepIn K (.ref f20) = true)
    (aC : PySem.W.nsIn K mainGlobals "NotOne" = some (some (.ref C)))
    (xC : K.lookup C = some (excClassObj nm q C N bs ExH.tailLE true sn sub ab col dd m0 m1 m2 m3 m5 "LookupError.__new__"))
    (sa : PySem.W.findIn K (.ref C) "__setattr__" = some (some (.builtin "object.__setattr__"))) (ga : PySem.W.findIn K (.ref C) "__getattribute__" = some (some (.builtin "BaseException.__getattribute__"))) (gg : PySem.W.findIn K (.ref C) "__getattr__" = some none) (nb : PySem.W.findIn K (.ref C) "sign" = some none)
    (aI : PySem.W.findIn K (.ref C) "__init__" = some (some (.ref fI))) (tI : PySem.W.typeIn K (.ref fI) = some (.type "function"))
    (lI : K.lookup fI = some ⟨ocI, odI, .func (PySem.W.fnOf "__init__" "NotOne.__init__" (defArgs s_init) (defBody s_init) (defScope s_init) .none kVI dcI pmI anI cdI ctI), slI⟩) (cI : PySem.W.codeIn K cdI "NotOne.__init__" = true) (kI : PySem.W.keepIn K (.ref fI) = true)
    (kC : PySem.W.keepIn K (.ref C) = true) (eC : PySem.W.subIn K (.ref C) (.type "BaseException") = some true) (tC : PySem.W.typeIn K (.ref C) = some (.type "type")) (hC : PySem.W.hasDictIn K C = true) (sC : PySem.W.subIn K (.ref C) (.ref C) = some true)
    (isc : PySem.W.isClsIn K C = true) (ica : PySem.W.findIn K (.ref C) "__class__" = some (some (.builtin "object.__class__"))) (icn : PySem.W.specialIn K (.builtin "object.__class__") "__get__" = some (some (.builtin "getset_descriptor.__get__")))
    (ict : PySem.W.takesIn K (.builtin "object.__class__") = some true) (icm : PySem.W.mroIn K C (.type "object") = some true) (leC : PySem.W.subIn K (.ref C) (.type "LookupError") = some true)
    (vLE : PySem.W.findCls K (.type "LookupError") (.type "type") "__init__" = some (.val (.builtin "LookupError.__init__")))
    (z0 : PySem.W.nsIn K mainGlobals "len" = some none)
    (z1 : PySem.W.nsIn K mainGlobals "abs" = some none)
    (z2 : PySem.W.nsIn K mainGlobals "range" = some none)
    (z3 : PySem.W.nsIn K mainGlobals "isinstance" = some none)
    (z4 : PySem.W.nsIn K mainGlobals "list" = some none)
    (z5 : PySem.W.nsIn K mainGlobals "tuple" = some none)
    (z6 : PySem.W.nsIn K mainGlobals "dict" = some none)
    (z7 : PySem.W.nsIn K mainGlobals "all" = some none)
    (z8 : PySem.W.nsIn K mainGlobals "zip" = some none)
    (z9 : PySem.W.nsIn K mainGlobals "sorted" = some none)
    (z10 : PySem.W.nsIn K mainGlobals "repr" = some none)
    (z11 : PySem.W.nsIn K mainGlobals "LookupError" = some none)
    : ∃ fd : FuncData, (∀ (s : Shared) (v : Value), BindsTo s fd ⟨[v], []⟩ [("_law_script", v)]) ∧ ∀ base : Heap, K.In base → base.Ns mainGlobals mg → Gd.FnOkG l.prog w K mg base CX0 7 fa fd ["_law_script"] (spLaw K) := by
  have e := hfa.symm.trans (PySem.W.mg_of X G a20)
  cases e
  have F1 := fun_mk (st := s_copied) l1 c1 k1
  have F2 := fun_mk (st := s_together) l2 c2 k2
  have F3 := fun_mk (st := s_power) l3 c3 k3
  have F4 := fun_mk (st := s_powers) l4 c4 k4
  have F5 := fun_mk (st := s_map_round) l5 c5 k5
  have F6 := fun_mk (st := s_times_to) l6 c6 k6
  have F7 := fun_mk (st := s_is_one_to_one) l7 c7 k7
  have F8 := fun_mk (st := s_turned_map) l8 c8 k8
  have F9 := fun_mk (st := s_sources) l9 c9 k9
  have F10 := fun_mk (st := s__law_feed) l10 c10 k10
  have F11 := fun_mk (st := s__law_draw) l11 c11 k11
  have F12 := fun_mk (st := s__law_pick) l12 c12 k12
  have F13 := fun_mk (st := s__law_signs) l13 c13 k13
  have F14 := fun_mk (st := s__law_mixed) l14 c14 k14
  have F15 := fun_mk (st := s__law_any_map) l15 c15 k15
  have F16 := fun_mk (st := s__law_then) l16 c16 k16
  have F17 := fun_mk (st := s__law_all_powers) l17 c17 k17
  have F18 := fun_mk (st := s__law_turned) l18 c18 k18
  have F19 := fun_mk (st := s__law_right) l19 c19 k19
  have F20 := fun_mk (st := s_law) l20 c20 k20
  have FI := fun_mk (st := s_init) lI cI kI
  have b1 := F1.binds (ps := ["thing"]) fun _ _ _ _ _ _ us hl => match us, hl with | [_], _ => rfl
  have b2 := F2.binds (ps := ["signs", "one", "other"]) fun _ _ _ _ _ _ us hl => match us, hl with | [_, _, _], _ => rfl
  have b3 := F3.binds (ps := ["signs", "one", "times"]) fun _ _ _ _ _ _ us hl => match us, hl with | [_, _, _], _ => rfl
  have b4 := F4.binds (ps := ["signs", "one"]) fun _ _ _ _ _ _ us hl => match us, hl with | [_, _], _ => rfl
  have b5 := F5.binds (ps := ["signs", "one"]) fun _ _ _ _ _ _ us hl => match us, hl with | [_, _], _ => rfl
  have b6 := F6.binds (ps := ["signs", "one", "other"]) fun _ _ _ _ _ _ us hl => match us, hl with | [_, _, _], _ => rfl
  have b7 := F7.binds (ps := ["signs", "one"]) fun _ _ _ _ _ _ us hl => match us, hl with | [_, _], _ => rfl
  have b8 := F8.binds (ps := ["signs", "one"]) fun _ _ _ _ _ _ us hl => match us, hl with | [_, _], _ => rfl
  have b9 := F9.binds (ps := ["signs", "one", "sign"]) fun _ _ _ _ _ _ us hl => match us, hl with | [_, _, _], _ => rfl
  have b10 := F10.binds (ps := ["_law_script"]) fun _ _ _ _ _ _ us hl => match us, hl with | [_], _ => rfl
  have b11 := F11.binds (ps := ["_law_feed_here", "_law_many"]) fun _ _ _ _ _ _ us hl => match us, hl with | [_, _], _ => rfl
  have b12 := F12.binds (ps := ["_law_feed_here", "_law_some"]) fun _ _ _ _ _ _ us hl => match us, hl with | [_, _], _ => rfl
  have b13 := F13.binds (ps := ["_law_feed_here", "_law_many"]) fun _ _ _ _ _ _ us hl => match us, hl with | [_, _], _ => rfl
  have b14 := F14.binds (ps := ["_law_feed_here", "_law_signs_here"]) fun _ _ _ _ _ _ us hl => match us, hl with | [_, _], _ => rfl
  have b15 := F15.binds (ps := ["_law_feed_here", "_law_signs_here"]) fun _ _ _ _ _ _ us hl => match us, hl with | [_, _], _ => rfl
  have b16 := F16.binds (ps := ["_law_signs_here", "_law_one", "_law_other"]) fun _ _ _ _ _ _ us hl => match us, hl with | [_, _, _], _ => rfl
  have b17 := F17.binds (ps := ["_law_signs_here", "_law_one"]) fun _ _ _ _ _ _ us hl => match us, hl with | [_, _], _ => rfl
  have b18 := F18.binds (ps := ["_law_signs_here", "_law_one"]) fun _ _ _ _ _ _ us hl => match us, hl with | [_, _], _ => rfl
  have b19 := F19.binds (ps := ["_law_feed_here", "_law_signs_here", "_law_one", "_law_other"]) fun _ _ _ _ _ _ us hl => match us, hl with | [_, _, _, _], _ => rfl
  have bI := FI.binds (ps := ["self", "sign"]) fun _ _ _ _ _ _ us hl => match us, hl with | [_, _], _ => rfl
  have T : Txt K mg { f_copied := f1, d_copied := _, f_together := f2, d_together := _, f_power := f3, d_power := _, f_powers := f4, d_powers := _, f_map_round := f5, d_map_round := _, f_times_to := f6, d_times_to := _, f_is_one_to_one := f7, d_is_one_to_one := _, f_turned_map := f8, d_turned_map := _, f_sources := f9, d_sources := _, f__law_feed := f10, d__law_feed := _, f__law_draw := f11, d__law_draw := _, f__law_pick := f12, d__law_pick := _, f__law_signs := f13, d__law_signs := _, f__law_mixed := f14, d__law_mixed := _, f__law_any_map := f15, d__law_any_map := _, f__law_then := f16, d__law_then := _, f__law_all_powers := f17, d__law_all_powers := _, f__law_turned := f18, d__law_turned := _, f__law_right := f19, d__law_right := _, C_NotOne := C, f_init := fI, d_init := _ } :=
    { F_copied := F1, m_copied := PySem.W.mg_of X G a1, b_copied := b1,
      F_together := F2, m_together := PySem.W.mg_of X G a2, b_together := b2,
      F_power := F3, m_power := PySem.W.mg_of X G a3, b_power := b3,
      F_powers := F4, m_powers := PySem.W.mg_of X G a4, b_powers := b4,
      F_map_round := F5, m_map_round := PySem.W.mg_of X G a5, b_map_round := b5,
      F_times_to := F6, m_times_to := PySem.W.mg_of X G a6, b_times_to := b6,
      F_is_one_to_one := F7, m_is_one_to_one := PySem.W.mg_of X G a7, b_is_one_to_one := b7,
      F_turned_map := F8, m_turned_map := PySem.W.mg_of X G a8, b_turned_map := b8,
      F_sources := F9, m_sources := PySem.W.mg_of X G a9, b_sources := b9,
      F__law_feed := F10, m__law_feed := PySem.W.mg_of X G a10, b__law_feed := b10,
      F__law_draw := F11, m__law_draw := PySem.W.mg_of X G a11, b__law_draw := b11,
      F__law_pick := F12, m__law_pick := PySem.W.mg_of X G a12, b__law_pick := b12,
      F__law_signs := F13, m__law_signs := PySem.W.mg_of X G a13, b__law_signs := b13,
      F__law_mixed := F14, m__law_mixed := PySem.W.mg_of X G a14, b__law_mixed := b14,
      F__law_any_map := F15, m__law_any_map := PySem.W.mg_of X G a15, b__law_any_map := b15,
      F__law_then := F16, m__law_then := PySem.W.mg_of X G a16, b__law_then := b16,
      F__law_all_powers := F17, m__law_all_powers := PySem.W.mg_of X G a17, b__law_all_powers := b17,
      F__law_turned := F18, m__law_turned := PySem.W.mg_of X G a18, b__law_turned := b18,
      F__law_right := F19, m__law_right := PySem.W.mg_of X G a19, b__law_right := b19,
      F_init := FI, b_init := bI, m_NotOne := PySem.W.mg_of X G aC, X_NotOne := ⟨⟨nm, q, N, bs, sn, sub, ab, col, dd, m0, m1, m2, m3, m5, xC⟩, sa, eC, tC, kC⟩, i_NotOne := aI, t_NotOne := tI, n_NotOne := nb, xf_NotOne := ⟨ga, gg, eC, hC⟩, is_NotOne := ⟨isc, ga, gg, eC, ica, icn, ict, icm⟩, sub_NotOne := sC, hd_NotOne := hC, le_NotOne := kit_LE leC, v_LE := vLE,
      z_len := PySem.W.mg_none_of X G z0,
      z_abs := PySem.W.mg_none_of X G z1,
      z_range := PySem.W.mg_none_of X G z2,
      z_isinstance := PySem.W.mg_none_of X G z3,
      z_list := PySem.W.mg_none_of X G z4,
      z_tuple := PySem.W.mg_none_of X G z5,
      z_dict := PySem.W.mg_none_of X G z6,
      z_all := PySem.W.mg_none_of X G z7,
      z_zip := PySem.W.mg_none_of X G z8,
      z_sorted := PySem.W.mg_none_of X G z9,
      z_repr := PySem.W.mg_none_of X G z10,
      z_LookupError := PySem.W.mg_none_of X G z11 }
  exact ⟨_, fun s v => .of_eq rfl, fun base _ _ => ok_law F20 T⟩
end K33
open PySem PySem.W PyProof.Rows
set_option maxRecDepth 100000 in
set_option maxHeartbeats 0 in
theorem PySem.Challenge.cw_bandprint_k33_maps_of_signs_holds : PySem.Challenge.rw_bandprint_k33_maps_of_signs.Holds := by
  w_on; o_law; k_head; (case hw => w_witness2)
  k_fill
  refine Gd.walk_ofG (l := PySem.Challenge.rw_bandprint_k33_maps_of_signs) (n := 63) (k := 7) (x := "_law_script") (CX := fun _ => L2.CX0) (sp := fun w => K33.spLaw _) rfl (by decide) rfl ⟨rfl, by decide, by decide⟩ (fun w h Y => PySem.W.kIn_of Y) ?F (fun _ _ a ns hl _ hS => ⟨a, ns, rfl, hS, hl, fun _ => rfl⟩) (fun _ _ _ _ _ h => h)
  case F =>
    intro w mg fa h KX G hmg
    refine' K33.all_mk KX G hmg ?a1 ?l1 ?c1 ?k1 ?a2 ?l2 ?c2 ?k2 ?a3 ?l3 ?c3 ?k3 ?a4 ?l4 ?c4 ?k4 ?a5 ?l5 ?c5 ?k5 ?a6 ?l6 ?c6 ?k6 ?a7 ?l7 ?c7 ?k7 ?a8 ?l8 ?c8 ?k8 ?a9 ?l9 ?c9 ?k9 ?a10 ?l10 ?c10 ?k10 ?a11 ?l11 ?c11 ?k11 ?a12 ?l12 ?c12 ?k12 ?a13 ?l13 ?c13 ?k13 ?a14 ?l14 ?c14 ?k14 ?a15 ?l15 ?c15 ?k15 ?a16 ?l16 ?c16 ?k16 ?a17 ?l17 ?c17 ?k17 ?a18 ?l18 ?c18 ?k18 ?a19 ?l19 ?c19 ?k19 ?a20 ?l20 ?c20 ?k20 ?aC ?xC ?sa ?ga ?gg ?nb ?aI ?tI ?lI ?cI ?kI ?kC ?eC ?tC ?hC ?sC ?isc ?ica ?icn ?ict ?icm ?leC ?vLE ?z0 ?z1 ?z2 ?z3 ?z4 ?z5 ?z6 ?z7 ?z8 ?z9 ?z10 ?z11
    (case a1 => k_is); (case l1 => k_is); (case c1 => k_is); (case k1 => k_is); (case a2 => k_is); (case l2 => k_is)
    (case c2 => k_is); (case k2 => k_is); (case a3 => k_is); (case l3 => k_is); (case c3 => k_is); (case k3 => k_is)
    (case a4 => k_is); (case l4 => k_is); (case c4 => k_is); (case k4 => k_is); (case a5 => k_is); (case l5 => k_is)
    (case c5 => k_is); (case k5 => k_is); (case a6 => k_is); (case l6 => k_is); (case c6 => k_is); (case k6 => k_is)
    (case a7 => k_is); (case l7 => k_is); (case c7 => k_is); (case k7 => k_is); (case a8 => k_is); (case l8 => k_is)
    (case c8 => k_is); (case k8 => k_is); (case a9 => k_is); (case l9 => k_is); (case c9 => k_is); (case k9 => k_is)
    (case a10 => k_is); (case l10 => k_is); (case c10 => k_is); (case k10 => k_is); (case a11 => k_is); (case l11 => k_is)
    (case c11 => k_is); (case k11 => k_is); (case a12 => k_is); (case l12 => k_is); (case c12 => k_is); (case k12 => k_is)
    (case a13 => k_is); (case l13 => k_is); (case c13 => k_is); (case k13 => k_is); (case a14 => k_is); (case l14 => k_is)
    (case c14 => k_is); (case k14 => k_is); (case a15 => k_is); (case l15 => k_is); (case c15 => k_is); (case k15 => k_is)
    (case a16 => k_is); (case l16 => k_is); (case c16 => k_is); (case k16 => k_is); (case a17 => k_is); (case l17 => k_is)
    (case c17 => k_is); (case k17 => k_is); (case a18 => k_is); (case l18 => k_is); (case c18 => k_is); (case k18 => k_is)
    (case a19 => k_is); (case l19 => k_is); (case c19 => k_is); (case k19 => k_is); (case a20 => k_is); (case l20 => k_is)
    (case c20 => k_is); (case k20 => k_is); (case aC => k_is); (case xC => k_is); (case sa => k_is); (case ga => k_is)
    (case gg => k_is); (case nb => k_is); (case aI => k_is); (case tI => k_is); (case lI => k_is); (case cI => k_is)
    (case kI => k_is); (case kC => k_is); (case eC => k_is); (case tC => k_is); (case hC => k_is); (case sC => first | k_is | rfl)
    (case isc => k_is); (case ica => k_is); (case icn => k_is); (case ict => k_is); (case icm => k_is); (case leC => k_is)
    (case vLE => k_is); (case z0 => k_is); (case z1 => k_is); (case z2 => k_is); (case z3 => k_is); (case z4 => k_is)
    (case z5 => k_is); (case z6 => k_is); (case z7 => k_is); (case z8 => k_is); (case z9 => k_is); (case z10 => k_is)
    (case z11 => k_is)
