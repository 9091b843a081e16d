import PyProof.Rows.All
import Wide.All
import OpenK.AllK
import Wide.FinOn
import HandS.ForMost
import HandS.Zip
import HandS.TupAny
import HandS.TupMul
import HandS.Deep
import HandS.Style
import HandS.SetFor
import HandS.Strs
import HandS.Walk
import HandS.IsInst
import HandS.Conv
import HandS.Wide
import HandS.WideBits
import HandS.Evl
import HandS.MakeKwOnly
import KE.GoesMore
import KE.GoesEnumKw
import KE.KBits
import KE.KExcIs
import HandS.ExcInit
import HandS.ExcField
import HandS.ExcOwn
import HandS.WordsExc
import HandS.Lambda
import KE.KLam
import HandS.ExcInit
import HandS.ExcField
import HandS.ExcOwn
import HandS.WordsExc
import KE.RegKIsAll
import PySem.Challenge.RW_calledseats_k42_invalid_records
set_option Elab.async false
set_option linter.all false
set_option maxRecDepth 100000
set_option maxHeartbeats 4000000


namespace CZ
open PySem PySem.Spec PyProof.Rows L2
open PySem.Sem (wp)
/-- one draw of a zip: strict or not -/
def zdraw (b : Bool) (it : Value) : Sem (Option Value) := if b = true then Builtin.SmallTypes.nextOrEnd it else (Builtin.SmallTypes.nextOf it >>= fun x => pure (some x))
/-- a zip object: f0 what it has handed out, b its strictness -/
abbrev ZipO (h : Heap) (z TI TO : Addr) (f0 : Value) (b : Bool) : Prop := h.get? z = some { cls := .type "zip", data := .fields #[f0, .bool false, .bool b, .ref TI, .ref TO] }
abbrev TupO (h : Heap) (T : Addr) (vs : Array Value) : Prop := h.get? T = some { cls := .type "tuple", data := .seq vs }
theorem val_b (b : Bool) : (Value.bool b == Value.bool true) = b := by cases b <;> rfl
section
variable {prog : Program} {w : World} {A : Around} {E : Value → Shared → Prop} {s : Shared} {b : Bool}
theorem zdraw_item {it : Addr} {fp : List Addr} {n i : Nat} {P : Nat → Value → Prop} {St : Nat → Heap → Prop} {Q : Option Value → Shared → Prop} (D : Draws prog w A it fp n P St) (hi : i < n) (st : St i s.heap)
    (hQ : ∀ x h' tk, P i x → St (i + 1) h' → Heap.SameBut it s.heap h' → Q (some x) { s with heap := h', toks := tk }) : wpAny (model prog w) A (zdraw b (.ref it)) Q E s := by
  cases b with
  | false => exact wpAny_bind (m := Builtin.SmallTypes.nextOf (.ref it)) (D.item i s _ _ hi st fun x h' tk p st' sb => wpAny_pure (hQ x h' tk p st' sb))
  | true =>
    show wpAny _ _ (Builtin.SmallTypes.nextOrEnd (.ref it)) _ _ _
    unfold Builtin.SmallTypes.nextOrEnd
    exact wpAny_bind (wpAny_attempt (D.item i s _ _ hi st fun x h' tk p st' sb => wpAny_pure (hQ x h' tk p st' sb)))
theorem zend_strict {it : Addr} {fp : List Addr} {n : Nat} {P : Nat → Value → Prop} {St : Nat → Heap → Prop} {Q : Option Value → Shared → Prop} (D : Draws prog w A it fp n P St) (st : St n s.heap)
    (hQ : ∀ h', Heap.ExtBut it s.heap h' → Q none { s with heap := h' }) : wpAny (model prog w) A (Builtin.SmallTypes.nextOrEnd (.ref it)) Q E s := by
  unfold Builtin.SmallTypes.nextOrEnd
  refine wpAny_bind (wpAny_attempt (D.done s _ _ st fun h' e eb he => ?_))
  obtain ⟨o, ho, hc⟩ := he
  exact wpAny_bind (wpAny_isInstance (T := "StopIteration") (b := true) ⟨o, ho, hc⟩ isSubtype_stop (wpAny_pure (hQ h' eb)))
theorem upd_tup {T : Addr} {vs : Array Value} {x : Value} {k : Nat} {Q : Unit → Shared → Prop} (hT : TupO s.heap T vs) (hz : vs.size ≤ 8)
    (h : ∀ h', TupO h' T (vs.setIfInBounds k x) → Heap.SameBut T s.heap h' → Q () { s with heap := h' }) : wpAny (model prog w) A (updateSeq T (·.setIfInBounds k x)) Q E s := by
  have z8 : (8 : Nat) ≤ sizeLine := by decide
  refine wpAny_updateSeq hT rfl (h _ ?_ (Heap.SameBut.update ..)) (Nat.le_trans hz z8) (by rw [Array.size_setIfInBounds]; exact Nat.le_succ_of_le (Nat.le_trans hz z8))
  unfold TupO
  rw [Heap.get?_update_self _ hT rfl]
  simp [Obj.mapSeq]
theorem iter_zip {z TI TO : Addr} {f0 : Value} {Q : Value → Shared → Prop} (hz : ZipO s.heap z TI TO f0 b) (h : Q (.ref z) s) : wpAny (model prog w) A (pyIter (.ref z)) Q E s := by
  have hT : s.TypeIs (.ref z) "zip" := ⟨_, hz, rfl⟩
  exact wpAny_pyIter_slot hT F.slot_zip_iter (wpAny_call_entry F.slot_zip_iter hT F.entry_zip_iter (wpAny_pure ⟨_, rfl, "zip", _, hT, F.slot_zip_next.lookup, h⟩) (F.args_zip_iter_1 _))
/-- the tuple that was handed out is let go -/
theorem go_zip {elts : List Expr} {x1} {pos : Pos} {z TI TO T : Addr} {Q : Unit → Shared → Prop} (hz : ZipO s.heap z TI TO (rawInt T) b)
    (hQ : ∀ h', ZipO h' z TI TO .none b → Heap.SameBut z s.heap h' → Q () { s with heap := h' }) : wpAny (model prog w) A (letOwnedTupleGo (.Tuple elts x1 pos) (.ref z) (.ref T)) Q E s := by
  unfold letOwnedTupleGo
  refine wpAny_bind (wpAny_load hz ?_)
  show wpAny _ _ (ite _ _ _) Q E s
  rw [if_pos (by simp)]
  exact wpAny_bind (wpAny_rule (wpAny_setField_rec hz (by simp) fun h' hz' hs' => hQ h' hz' hs'))
/-- the StopIteration that a zip ends by -/
theorem stop_it {Q : Fin → Shared → Prop} (hh : A.handled = none) (hE : ∀ h' e, (∀ c o, s.heap.get? c = some o → h'.get? c = some o) → (∃ o, h'.get? e = some o ∧ o.cls = .type "StopIteration") → E (.ref e) { s with heap := h' }) :
    wpAny (model prog w) A (PySem.Builtin.SmallTypes.stopIteration : Sem Fin) Q E s := by
  unfold PySem.Builtin.SmallTypes.stopIteration
  show wpAny _ _ (newExc (.type "StopIteration") [] >>= _) _ _ _
  refine wpAny_bind ?_
  simp only [newExc, newTuple]
  refine wpAny_bind (wpAny_newObj_type ?_ (by size_fits))
  refine wpAny_bind (m := firstArgMember _ _) (wpAny_of_eq (a := Value.none) (by first | rfl | (simp only [firstArgMember]; rfl)) ?_)
  refine wpAny_newObj_type ?_ (by size_fits)
  simp only [raiseNew]
  refine wpAny_bind (wpAny_handled ?_)
  rw [hh]
  exact wpAny_bind (wpAny_pure (wpAny_throw (hE _ _ (fun c o e => Heap.get?_push_of_some _ (Heap.get?_push_of_some _ e)) ⟨_, Heap.get?_push_size _ rfl, rfl⟩)))
end
end CZ

namespace CZ
open PySem PySem.Spec PyProof.Rows L2
open PySem.Sem (wp)
/-- the cells of a zip over 2 iterators lie apart -/
structure Sep2 (z TI TO i1 i2 : Addr) (fp1 fp2 : List Addr) : Prop where
  zTO : z ≠ TO
  zTI : z ≠ TI
  TOTI : TO ≠ TI
  m1 : i1 ∈ fp1
  z1 : z ∉ fp1
  T1 : TO ∉ fp1
  I1 : TI ≠ i1
  s2_1 : i2 ∉ fp1
  m2 : i2 ∈ fp2
  z2 : z ∉ fp2
  T2 : TO ∉ fp2
  I2 : TI ≠ i2
  s1_2 : i1 ∉ fp2
section
variable {prog : Program} {w : World} {A : Around} {E : Value → Shared → Prop} {s : Shared} {b : Bool}
theorem next_item2 {z TI TO i1 i2 : Addr} {fp1 fp2 : List Addr} {n1 n2 i : Nat} {P1 P2 : Nat → Value → Prop} {St1 St2 : Nat → Heap → Prop} {a1 a2 : Value} {Q : Value → Shared → Prop} (S : Sep2 z TI TO i1 i2 fp1 fp2) (D1 : Draws prog w A i1 fp1 n1 P1 St1) (D2 : Draws prog w A i2 fp2 n2 P2 St2)
    (hz : ZipO s.heap z TI TO .none b) (hTI : TupO s.heap TI #[.ref i1, .ref i2]) (hTO : TupO s.heap TO #[a1, a2]) (st1 : St1 i s.heap) (st2 : St2 i s.heap) (hi1 : i < n1) (hi2 : i < n2)
    (hQ : ∀ x1 x2 h' tk, P1 i x1 → P2 i x2 → ZipO h' z TI TO (rawInt s.heap.objs.size) b → TupO h' TO #[x1, x2] → St1 (i + 1) h' → St2 (i + 1) h' → TupO h' s.heap.objs.size #[x1, x2] →
      (∀ c o, c ≠ z → c ≠ TO → c ≠ i1 → c ≠ i2 → s.heap.get? c = some o → h'.get? c = some o) → Q (.ref s.heap.objs.size) { s with heap := h', toks := tk }) :
    wpAny (model prog w) A (Builtin.«zip.__next__» ⟨[.ref z], []⟩) (fun fin s' => ∃ v, fin = .done (.ret v) ∧ Q v s') E s := by
  obtain ⟨hp, g, d, tk0, os⟩ := s
  refine wpAny_bind (m := field (.ref z) 2) (wpAny_field hz rfl (x := .bool b) rfl ?_)
  refine wpAny_bind (m := field (.ref z) 3) (wpAny_field hz rfl (x := .ref TI) rfl ?_)
  refine wpAny_bind (wpAny_seqItems hTI rfl ?_)
  show wpAny _ _ (Builtin.SmallTypes.ownedTupleIsFree (.ref z) >>= _) _ _ _
  rw [val_b]
  refine wpAny_bind ?_
  unfold Builtin.SmallTypes.ownedTupleIsFree
  refine wpAny_bind (wpAny_field hz rfl (x := .none) rfl (wpAny_pure ?_))
  simp only [if_true]
  refine wpAny_bind (wpAny_rule (wpAny_bind (wpAny_field hz rfl (x := .ref TO) rfl ?_)))
  refine wpAny_bind (wpAny_setField_rec hz (by simp) fun g0 hz0 hs0 => wpAny_bind ?_)
  replace hs0 : Heap.SameBut z hp g0 := hs0
  replace hz0 : ZipO g0 z TI TO .ellipsis b := hz0
  have hT0 : TupO g0 TO #[a1, a2] := hs0.extBut _ _ S.zTO.symm hTO
  have t1_0 : St1 i g0 := D1.frame _ _ _ st1 fun c hc o e => hs0.extBut c o (fun q => S.z1 (q ▸ hc)) e
  have t2_0 : St2 i g0 := D2.frame _ _ _ st2 fun c hc o e => hs0.extBut c o (fun q => S.z2 (q ▸ hc)) e
  have k0 : ∀ c o, c ≠ z → c ≠ TO → c ≠ i1 → c ≠ i2 → hp.get? c = some o → g0.get? c = some o := fun c o q0 _ _ _ e => hs0.extBut c o q0 e
  simp only [List.zipIdx_cons, List.zipIdx_nil, List.forIn_cons, List.forIn_nil]
  refine wpAny_bind (wpAny_bind (wpAny_onRaise (m := zdraw b (.ref i1)) (zdraw_item (s := ⟨g0, g, d, tk0, os⟩) D1 hi1 t1_0 fun x1 d1 tk1 p1 n1 hd1 => ?_)))
  replace hd1 : Heap.SameBut i1 g0 d1 := hd1
  have hU1 : TupO d1 TO #[a1, a2] := hd1.extBut _ _ (fun q => S.T1 (q ▸ S.m1)) hT0
  refine wpAny_bind (wpAny_seqItems (s := ⟨d1, g, d, tk1, os⟩) hU1 rfl ?_)
  refine wpAny_bind (upd_tup (s := ⟨d1, g, d, tk1, os⟩) hU1 (by simp) fun g1 hT1 hs1 => ?_)
  replace hs1 : Heap.SameBut TO d1 g1 := hs1
  replace hT1 : TupO g1 TO #[x1, a2] := hT1
  have hz1 : ZipO g1 z TI TO .ellipsis b := hs1.extBut _ _ S.zTO (hd1.extBut _ _ (fun q => S.z1 (q ▸ S.m1)) hz0)
  have t1_1 : St1 (i + 1) g1 := D1.frame _ _ _ n1 fun c hc o e => hs1.extBut c o (fun q => S.T1 (q ▸ hc)) e
  have t2_1 : St2 i g1 := D2.frame _ _ _ t2_0 fun c hc o e => hs1.extBut c o (fun q => S.T2 (q ▸ hc)) (hd1.extBut c o (fun q => S.s1_2 (q ▸ hc)) e)
  have k1 : ∀ c o, c ≠ z → c ≠ TO → c ≠ i1 → c ≠ i2 → hp.get? c = some o → g1.get? c = some o := fun c o qz qT q1 q2 e => hs1.extBut c o qT (hd1.extBut c o q1 (k0 c o qz qT q1 q2 e))
  have e1 : g1.objs.size = g0.objs.size := by rw [hs1.1, hd1.1]
  refine wpAny_bind (wpAny_letGo (wpAny_pure ?_))
  refine wpAny_bind (wpAny_bind (wpAny_onRaise (m := zdraw b (.ref i2)) (zdraw_item (s := ⟨g1, g, d, tk1, os⟩) D2 hi2 t2_1 fun x2 d2 tk2 p2 n2 hd2 => ?_)))
  replace hd2 : Heap.SameBut i2 g1 d2 := hd2
  have hU2 : TupO d2 TO #[x1, a2] := hd2.extBut _ _ (fun q => S.T2 (q ▸ S.m2)) hT1
  refine wpAny_bind (wpAny_seqItems (s := ⟨d2, g, d, tk2, os⟩) hU2 rfl ?_)
  refine wpAny_bind (upd_tup (s := ⟨d2, g, d, tk2, os⟩) hU2 (by simp) fun g2 hT2 hs2 => ?_)
  replace hs2 : Heap.SameBut TO d2 g2 := hs2
  replace hT2 : TupO g2 TO #[x1, x2] := hT2
  have hz2 : ZipO g2 z TI TO .ellipsis b := hs2.extBut _ _ S.zTO (hd2.extBut _ _ (fun q => S.z2 (q ▸ S.m2)) hz1)
  have t1_2 : St1 (i + 1) g2 := D1.frame _ _ _ t1_1 fun c hc o e => hs2.extBut c o (fun q => S.T1 (q ▸ hc)) (hd2.extBut c o (fun q => S.s2_1 (q ▸ hc)) e)
  have t2_2 : St2 (i + 1) g2 := D2.frame _ _ _ n2 fun c hc o e => hs2.extBut c o (fun q => S.T2 (q ▸ hc)) e
  have k2 : ∀ c o, c ≠ z → c ≠ TO → c ≠ i1 → c ≠ i2 → hp.get? c = some o → g2.get? c = some o := fun c o qz qT q1 q2 e => hs2.extBut c o qT (hd2.extBut c o q2 (k1 c o qz qT q1 q2 e))
  have e2 : g2.objs.size = g1.objs.size := by rw [hs2.1, hd2.1]
  refine wpAny_bind (wpAny_letGo (wpAny_pure ?_))
  refine wpAny_pure ?_
  refine wpAny_bind (wpAny_seqItems (s := ⟨g2, g, d, tk2, os⟩) hT2 rfl ?_)
  refine wpAny_bind (wpAny_newTuple ?_)
  have hsz : g2.objs.size = hp.objs.size := by rw [e2, e1, hs0.1]
  have hlt : z < g2.objs.size := Heap.lt_size hz2
  refine wpAny_bind ?_
  unfold Builtin.SmallTypes.ownedTupleHandOut
  have hy : ZipO (g2.push { cls := .type "tuple", data := .seq #[x1, x2] }) z TI TO .ellipsis b := Heap.get?_push_of_some _ hz2
  refine wpAny_bind (wpAny_setField_rec hy (by simp) fun u1 hu1 hv1 => wpAny_setField_rec hu1 (by simp) fun u2 hu2 hv2 => ?_)
  have up : ∀ c o, c ≠ z → g2.get? c = some o → u2.get? c = some o := fun c o q e => hv2.extBut c o q (hv1.extBut c o q (Heap.get?_push_of_some _ e))
  have hN : TupO u2 g2.objs.size #[x1, x2] := hv2.extBut _ _ (Nat.ne_of_gt hlt) (hv1.extBut _ _ (Nat.ne_of_gt hlt) (Heap.get?_push_size _ rfl))
  have hZ : ZipO u2 z TI TO (rawInt g2.objs.size) b := hu2
  rw [hsz] at hN hZ
  refine wpAny_pure ⟨_, rfl, ?_⟩
  show Q (.ref g2.objs.size) ⟨u2, g, d, tk2, os⟩
  rw [hsz]
  exact hQ x1 x2 u2 tk2 p1 p2 hZ (up _ _ S.zTO.symm hT2) (D1.frame _ _ _ t1_2 fun c hc o e => up c o (fun q => S.z1 (q ▸ hc)) e) (D2.frame _ _ _ t2_2 fun c hc o e => up c o (fun q => S.z2 (q ▸ hc)) e) hN fun c o qz qT q1 q2 e => up c o qz (k2 c o qz qT q1 q2 e)
theorem next_end2 {z TI TO i1 i2 : Addr} {fp1 fp2 : List Addr} {n : Nat} {P1 P2 : Nat → Value → Prop} {St1 St2 : Nat → Heap → Prop} {a1 a2 : Value} {Q : Fin → Shared → Prop} (hh : A.handled = none) (S : Sep2 z TI TO i1 i2 fp1 fp2) (D1 : Draws prog w A i1 fp1 n P1 St1) (D2 : Draws prog w A i2 fp2 n P2 St2)
    (hz : ZipO s.heap z TI TO .none b) (hTI : TupO s.heap TI #[.ref i1, .ref i2]) (hTO : TupO s.heap TO #[a1, a2]) (st1 : St1 n s.heap) (st2 : St2 n s.heap)
    (hE : ∀ h' e, (∀ c o, c ≠ z → c ≠ TO → c ≠ i1 → c ≠ i2 → s.heap.get? c = some o → h'.get? c = some o) → (∃ o, h'.get? e = some o ∧ o.cls = .type "StopIteration") → E (.ref e) { s with heap := h' }) :
    wpAny (model prog w) A (Builtin.«zip.__next__» ⟨[.ref z], []⟩) Q E s := by
  obtain ⟨hp, g, d, tk0, os⟩ := s
  refine wpAny_bind (m := field (.ref z) 2) (wpAny_field hz rfl (x := .bool b) rfl ?_)
  refine wpAny_bind (m := field (.ref z) 3) (wpAny_field hz rfl (x := .ref TI) rfl ?_)
  refine wpAny_bind (wpAny_seqItems hTI rfl ?_)
  show wpAny _ _ (Builtin.SmallTypes.ownedTupleIsFree (.ref z) >>= _) _ _ _
  rw [val_b]
  refine wpAny_bind ?_
  unfold Builtin.SmallTypes.ownedTupleIsFree
  refine wpAny_bind (wpAny_field hz rfl (x := .none) rfl (wpAny_pure ?_))
  simp only [if_true]
  refine wpAny_bind (wpAny_rule (wpAny_bind (wpAny_field hz rfl (x := .ref TO) rfl ?_)))
  refine wpAny_bind (wpAny_setField_rec hz (by simp) fun g0 hz0 hs0 => wpAny_bind ?_)
  replace hs0 : Heap.SameBut z hp g0 := hs0
  replace hz0 : ZipO g0 z TI TO .ellipsis b := hz0
  have t1_0 : St1 n g0 := D1.frame _ _ _ st1 fun c hc o e => hs0.extBut c o (fun q => S.z1 (q ▸ hc)) e
  have t2_0 : St2 n g0 := D2.frame _ _ _ st2 fun c hc o e => hs0.extBut c o (fun q => S.z2 (q ▸ hc)) e
  simp only [List.zipIdx_cons, List.zipIdx_nil, List.forIn_cons, List.forIn_nil]
  refine wpAny_bind (wpAny_bind (wpAny_onRaise ?_))
  cases b with
  | false =>
    refine wpAny_bind (m := Builtin.SmallTypes.nextOf (.ref i1)) (D1.done ⟨g0, g, d, tk0, os⟩ _ _ t1_0 fun y e hy he => ?_)
    replace hy : Heap.ExtBut i1 g0 y := hy
    obtain ⟨oe, hoe, hce⟩ := he
    replace hoe : y.get? e = some oe := hoe
    have hzy : ZipO y z TI TO .ellipsis false := hy _ _ (fun q => S.z1 (q ▸ S.m1)) hz0
    have hez : e ≠ z := fun x => by subst x; rw [hzy] at hoe; cases hoe; simp at hce
    refine wpAny_setField_rec (s := ⟨y, g, d, tk0, os⟩) hzy (by simp) fun y2 _ hv => ?_
    replace hv : Heap.SameBut z y y2 := hv
    exact hE y2 e (fun c o qz qT q1 q2 x => hv.extBut c o qz (hy c o q1 (hs0.extBut c o qz x))) ⟨oe, hv.extBut _ _ hez hoe, hce⟩
  | true =>
    refine zend_strict (s := ⟨g0, g, d, tk0, os⟩) D1 t1_0 fun y hy => ?_
    replace hy : Heap.ExtBut i1 g0 y := hy
    have hzy : ZipO y z TI TO .ellipsis true := hy _ _ (fun q => S.z1 (q ▸ S.m1)) hz0
    have t2_1 : St2 n y := D2.frame _ _ _ t2_0 fun c hc o e => hy c o (fun q => S.s1_2 (q ▸ hc)) e
    refine wpAny_bind (wpAny_setField_rec (s := ⟨y, g, d, tk0, os⟩) hzy (by simp) fun y1 _ hv1 => ?_)
    replace hv1 : Heap.SameBut z y y1 := hv1
    have r2_1 : St2 n y1 := D2.frame _ _ _ t2_1 fun c hc o e => hv1.extBut c o (fun q => S.z2 (q ▸ hc)) e
    have k1 : ∀ c o, c ≠ z → c ≠ TO → c ≠ i1 → c ≠ i2 → hp.get? c = some o → y1.get? c = some o := fun c o qz qT q1 q2 e => hv1.extBut c o qz (hy c o q1 (hs0.extBut c o qz e))
    refine wpAny_bind ?_
    refine wpAny_bind ?_
    simp only [List.drop_succ_cons, List.drop_zero, List.zipIdx_cons, List.zipIdx_nil, List.forIn_cons, List.forIn_nil]
    refine wpAny_bind (wpAny_bind (zend_strict (s := ⟨y1, g, d, tk0, os⟩) D2 r2_1 fun y2 hy2 => ?_))
    replace hy2 : Heap.ExtBut i2 y1 y2 := hy2
    have k2 : ∀ c o, c ≠ z → c ≠ TO → c ≠ i1 → c ≠ i2 → hp.get? c = some o → y2.get? c = some o := fun c o qz qT q1 q2 e => hy2 c o q2 (k1 c o qz qT q1 q2 e)
    refine wpAny_pure ?_
    refine wpAny_pure ?_
    exact wpAny_bind (wpAny_rule (stop_it (s := ⟨y2, g, d, tk0, os⟩) hh fun h2 e kk he => hE h2 e (fun c o qz qT q1 q2 x => kk c o (k2 c o qz qT q1 q2 x)) he))
theorem py_item2 {z TI TO i1 i2 : Addr} {fp1 fp2 : List Addr} {n1 n2 i : Nat} {P1 P2 : Nat → Value → Prop} {St1 St2 : Nat → Heap → Prop} {a1 a2 : Value} {Q : Option Value → Shared → Prop} (S : Sep2 z TI TO i1 i2 fp1 fp2) (D1 : Draws prog w A.in1 i1 fp1 n1 P1 St1) (D2 : Draws prog w A.in1 i2 fp2 n2 P2 St2)
    (hz : ZipO s.heap z TI TO .none b) (hTI : TupO s.heap TI #[.ref i1, .ref i2]) (hTO : TupO s.heap TO #[a1, a2]) (st1 : St1 i s.heap) (st2 : St2 i s.heap) (hi1 : i < n1) (hi2 : i < n2)
    (hQ : ∀ x1 x2 h' tk, P1 i x1 → P2 i x2 → ZipO h' z TI TO (rawInt s.heap.objs.size) b → TupO h' TO #[x1, x2] → St1 (i + 1) h' → St2 (i + 1) h' → TupO h' s.heap.objs.size #[x1, x2] →
      (∀ c o, c ≠ z → c ≠ TO → c ≠ i1 → c ≠ i2 → s.heap.get? c = some o → h'.get? c = some o) → Q (some (.ref s.heap.objs.size)) { s with heap := h', toks := tk }) : wpAny (model prog w) A (pyNext (.ref z)) Q E s := by
  have hT : s.TypeIs (.ref z) "zip" := ⟨_, hz, rfl⟩
  unfold pyNext
  refine wpAny_bind (wpAny_attempt (wpAny_callSpecial?_slot (name := Str.ofString "__next__") hT F.slot_zip_next (wpAny_call_entry F.slot_zip_next hT F.entry_zip_next ?_ (F.args_zip_next_1 _))))
  exact next_item2 S D1 D2 hz hTI hTO st1 st2 hi1 hi2 fun x1 x2 h2 tk p1 p2 q1 q2 u1 u2 q3 q4 => wpAny_pure (hQ x1 x2 h2 tk p1 p2 q1 q2 u1 u2 q3 q4)
theorem py_end2 {z TI TO i1 i2 : Addr} {fp1 fp2 : List Addr} {n : Nat} {P1 P2 : Nat → Value → Prop} {St1 St2 : Nat → Heap → Prop} {a1 a2 : Value} {Q : Option Value → Shared → Prop} (hh : A.handled = none) (S : Sep2 z TI TO i1 i2 fp1 fp2) (D1 : Draws prog w A.in1 i1 fp1 n P1 St1) (D2 : Draws prog w A.in1 i2 fp2 n P2 St2)
    (hz : ZipO s.heap z TI TO .none b) (hTI : TupO s.heap TI #[.ref i1, .ref i2]) (hTO : TupO s.heap TO #[a1, a2]) (st1 : St1 n s.heap) (st2 : St2 n s.heap)
    (hQ : ∀ h', (∀ c o, c ≠ z → c ≠ TO → c ≠ i1 → c ≠ i2 → s.heap.get? c = some o → h'.get? c = some o) → Q none { s with heap := h' }) : wpAny (model prog w) A (pyNext (.ref z)) Q E s := by
  have hT : s.TypeIs (.ref z) "zip" := ⟨_, hz, rfl⟩
  unfold pyNext
  refine wpAny_bind (wpAny_attempt (wpAny_callSpecial?_slot (name := Str.ofString "__next__") hT F.slot_zip_next (wpAny_call_entry F.slot_zip_next hT F.entry_zip_next ?_ (F.args_zip_next_1 _))))
  refine next_end2 (A := A.in1) hh S D1 D2 hz hTI hTO st1 st2 fun h2 e kk he => ?_
  obtain ⟨o, ho, hc⟩ := he
  exact wpAny_bind (wpAny_isInstance (T := "StopIteration") (b := true) ⟨o, ho, hc⟩ isSubtype_stop (wpAny_pure (hQ _ kk)))
theorem typeCall_strict2 (v1 v2 x : Value) : checkTypeCall "zip" ⟨[v1, v2], [(Str.ofString "strict", x)]⟩ = pure () := by kernel_rfl
theorem newCall_strict2 (v1 v2 x : Value) : checkBuiltinCall "zip.__new__" ⟨[.type "zip", v1, v2], [(Str.ofString "strict", x)]⟩ = pure () := by kernel_rfl
theorem initArgs_strict2 (obj v1 v2 x : Value) : argsOk "object.__init__" ⟨[obj, v1, v2], [(Str.ofString "strict", x)]⟩ := by unfold argsOk; kernel_rfl
abbrev sT2 (h : Heap) (o1 o2 : Obj) : Heap := (((h.push o1).push o2).push { cls := .type "tuple", data := .seq #[.ref h.objs.size, .ref (h.push o1).objs.size] })
abbrev sO2 (h : Heap) (o1 o2 : Obj) : Heap := (sT2 h o1 o2).push { cls := .type "tuple", data := .seq #[.none, .none] }
abbrev sZ2 (h : Heap) (o1 o2 : Obj) : Heap := (sO2 h o1 o2).push { cls := .type "zip", data := .fields #[.none, .bool false, .bool true, .ref ((h.push o1).push o2).objs.size, .ref (sT2 h o1 o2).objs.size] }
theorem meets_strict2 {v1 v2 : Value} {o1 o2 : Obj} {G1 G2 : Heap → Prop} (B1 : Begins v1 o1 G1) (B2 : Begins v2 o2 G2) :
    Meets (Builtin.«zip.__new__» ⟨[.type "zip", v1, v2], [(Str.ofString "strict", .bool true)]⟩) (fun _ R s => (G1 s.heap ∧ G2 s.heap) ∧ R (.ok (.ret (.ref (sO2 s.heap o1 o2).objs.size))) { s with heap := (sZ2 s.heap o1 o2) }) :=
  .of_wp fun prog w A R s h => by
    obtain ⟨hp, g, d, tk, os⟩ := s
    obtain ⟨⟨h1, h2⟩, h⟩ := h
    have hsub := sub_zip
    have e1 : (Str.ofString "strict" != ("strict" : Str)) = false := by decide +kernel
    have w1 : ∀ {A' : Around} {E : Value → Shared → Prop} {Q : Value → Shared → Prop}, Q (.ref hp.objs.size) ⟨(hp.push o1), g, d, tk, os⟩ → wpAny (model prog w) A' (pyIter v1) Q E ⟨hp, g, d, tk, os⟩ := fun q => B1.iter prog w _ _ ⟨hp, g, d, tk, os⟩ _ (B1.keeps _ _ h1 fun c u e => e) q
    have w2 : ∀ {A' : Around} {E : Value → Shared → Prop} {Q : Value → Shared → Prop}, Q (.ref (hp.push o1).objs.size) ⟨((hp.push o1).push o2), g, d, tk, os⟩ → wpAny (model prog w) A' (pyIter v2) Q E ⟨(hp.push o1), g, d, tk, os⟩ := fun q => B2.iter prog w _ _ ⟨(hp.push o1), g, d, tk, os⟩ _ (B2.keeps _ _ h2 fun c u e => (Heap.get?_push_of_some _ e)) q
    wp_walk using w1, w2
    exact ⟨_, rfl, h⟩
/-- zip(.., strict=True) of 2: its new cells -/
theorem begins_strict2 {v1 v2 : Value} {o1 o2 : Obj} {G1 G2 : Heap → Prop} {Q : Value → Shared → Prop} (B1 : Begins v1 o1 G1) (B2 : Begins v2 o2 G2) (h1 : G1 s.heap) (h2 : G2 s.heap)
    (h : ∀ h', ZipO h' (s.heap.objs.size + 4) (s.heap.objs.size + 2) (s.heap.objs.size + 3) .none true → TupO h' (s.heap.objs.size + 2) #[.ref s.heap.objs.size, .ref (s.heap.objs.size + 1)] → TupO h' (s.heap.objs.size + 3) #[.none, .none] → h'.get? s.heap.objs.size = some o1 → h'.get? (s.heap.objs.size + 1) = some o2 → (∀ c o, s.heap.get? c = some o → h'.get? c = some o) → Q (.ref (s.heap.objs.size + 4)) { s with heap := h' }) :
    wpAny (model prog w) A (call (.type "zip") [v1, v2] [(Str.ofString "strict", .bool true)]) Q E s := by
  refine callType_newKw F.called_zip (by decide) (typeCall_strict2 _ _ _) (newCall_strict2 _ _ _) (fun obj => initArgs_strict2 obj _ _ _) F.entry_zip_new (meets_strict2 B1 B2) ⟨⟨h1, h2⟩, ?_⟩
  have z1 : (s.heap.push o1).objs.size = s.heap.objs.size + 1 := by rw [Heap.size_push]
  have z2 : ((s.heap.push o1).push o2).objs.size = s.heap.objs.size + 2 := by rw [Heap.size_push, z1]
  have z3 : (sT2 s.heap o1 o2).objs.size = s.heap.objs.size + 3 := by rw [Heap.size_push, z2]
  have z4 : (sO2 s.heap o1 o2).objs.size = s.heap.objs.size + 4 := by rw [Heap.size_push, z3]
  have z5 : (sZ2 s.heap o1 o2).objs.size = s.heap.objs.size + 5 := by rw [Heap.size_push, z4]
  have q0 : (sZ2 s.heap o1 o2).get? s.heap.objs.size = some o1 := (Heap.get?_push_of_some _ (Heap.get?_push_of_some _ (Heap.get?_push_of_some _ (Heap.get?_push_of_some _ (Heap.get?_push_size _ B1.free)))))
  have q1 : (sZ2 s.heap o1 o2).get? (s.heap.push o1).objs.size = some o2 := (Heap.get?_push_of_some _ (Heap.get?_push_of_some _ (Heap.get?_push_of_some _ (Heap.get?_push_size _ B2.free))))
  rw [z1] at q1
  have q2 : (sZ2 s.heap o1 o2).get? ((s.heap.push o1).push o2).objs.size = some ({ cls := .type "tuple", data := .seq #[.ref s.heap.objs.size, .ref (s.heap.push o1).objs.size] } : Obj) := (Heap.get?_push_of_some _ (Heap.get?_push_of_some _ (Heap.get?_push_size _ rfl)))
  rw [z2] at q2
  have q3 : (sZ2 s.heap o1 o2).get? (sT2 s.heap o1 o2).objs.size = some ({ cls := .type "tuple", data := .seq #[.none, .none] } : Obj) := (Heap.get?_push_of_some _ (Heap.get?_push_size _ rfl))
  rw [z3] at q3
  have q4 : (sZ2 s.heap o1 o2).get? (sO2 s.heap o1 o2).objs.size = some ({ cls := .type "zip", data := .fields #[.none, .bool false, .bool true, .ref ((s.heap.push o1).push o2).objs.size, .ref (sT2 s.heap o1 o2).objs.size] } : Obj) := (Heap.get?_push_size _ rfl)
  rw [z4] at q4
  rw [z1] at q2
  rw [z3, z2] at q4
  show _ ∧ _
  rw [z4]
  exact ⟨⟨_, q4, rfl⟩, h _ q4 q2 q3 q0 q1 fun c o e => (Heap.get?_push_of_some _ (Heap.get?_push_of_some _ (Heap.get?_push_of_some _ (Heap.get?_push_of_some _ (Heap.get?_push_of_some _ e)))))⟩
end
/-- the cells of a zip over 3 iterators lie apart -/
structure Sep3 (z TI TO i1 i2 i3 : Addr) (fp1 fp2 fp3 : List Addr) : Prop where
  zTO : z ≠ TO
  zTI : z ≠ TI
  TOTI : TO ≠ TI
  m1 : i1 ∈ fp1
  z1 : z ∉ fp1
  T1 : TO ∉ fp1
  I1 : TI ≠ i1
  s2_1 : i2 ∉ fp1
  s3_1 : i3 ∉ fp1
  m2 : i2 ∈ fp2
  z2 : z ∉ fp2
  T2 : TO ∉ fp2
  I2 : TI ≠ i2
  s1_2 : i1 ∉ fp2
  s3_2 : i3 ∉ fp2
  m3 : i3 ∈ fp3
  z3 : z ∉ fp3
  T3 : TO ∉ fp3
  I3 : TI ≠ i3
  s1_3 : i1 ∉ fp3
  s2_3 : i2 ∉ fp3
section
variable {prog : Program} {w : World} {A : Around} {E : Value → Shared → Prop} {s : Shared} {b : Bool}
theorem next_item3 {z TI TO i1 i2 i3 : Addr} {fp1 fp2 fp3 : List Addr} {n1 n2 n3 i : Nat} {P1 P2 P3 : Nat → Value → Prop} {St1 St2 St3 : Nat → Heap → Prop} {a1 a2 a3 : Value} {Q : Value → Shared → Prop} (S : Sep3 z TI TO i1 i2 i3 fp1 fp2 fp3) (D1 : Draws prog w A i1 fp1 n1 P1 St1) (D2 : Draws prog w A i2 fp2 n2 P2 St2) (D3 : Draws prog w A i3 fp3 n3 P3 St3)
    (hz : ZipO s.heap z TI TO .none b) (hTI : TupO s.heap TI #[.ref i1, .ref i2, .ref i3]) (hTO : TupO s.heap TO #[a1, a2, a3]) (st1 : St1 i s.heap) (st2 : St2 i s.heap) (st3 : St3 i s.heap) (hi1 : i < n1) (hi2 : i < n2) (hi3 : i < n3)
    (hQ : ∀ x1 x2 x3 h' tk, P1 i x1 → P2 i x2 → P3 i x3 → ZipO h' z TI TO (rawInt s.heap.objs.size) b → TupO h' TO #[x1, x2, x3] → St1 (i + 1) h' → St2 (i + 1) h' → St3 (i + 1) h' → TupO h' s.heap.objs.size #[x1, x2, x3] →
      (∀ c o, c ≠ z → c ≠ TO → c ≠ i1 → c ≠ i2 → c ≠ i3 → s.heap.get? c = some o → h'.get? c = some o) → Q (.ref s.heap.objs.size) { s with heap := h', toks := tk }) :
    wpAny (model prog w) A (Builtin.«zip.__next__» ⟨[.ref z], []⟩) (fun fin s' => ∃ v, fin = .done (.ret v) ∧ Q v s') E s := by
  obtain ⟨hp, g, d, tk0, os⟩ := s
  refine wpAny_bind (m := field (.ref z) 2) (wpAny_field hz rfl (x := .bool b) rfl ?_)
  refine wpAny_bind (m := field (.ref z) 3) (wpAny_field hz rfl (x := .ref TI) rfl ?_)
  refine wpAny_bind (wpAny_seqItems hTI rfl ?_)
  show wpAny _ _ (Builtin.SmallTypes.ownedTupleIsFree (.ref z) >>= _) _ _ _
  rw [val_b]
  refine wpAny_bind ?_
  unfold Builtin.SmallTypes.ownedTupleIsFree
  refine wpAny_bind (wpAny_field hz rfl (x := .none) rfl (wpAny_pure ?_))
  simp only [if_true]
  refine wpAny_bind (wpAny_rule (wpAny_bind (wpAny_field hz rfl (x := .ref TO) rfl ?_)))
  refine wpAny_bind (wpAny_setField_rec hz (by simp) fun g0 hz0 hs0 => wpAny_bind ?_)
  replace hs0 : Heap.SameBut z hp g0 := hs0
  replace hz0 : ZipO g0 z TI TO .ellipsis b := hz0
  have hT0 : TupO g0 TO #[a1, a2, a3] := hs0.extBut _ _ S.zTO.symm hTO
  have t1_0 : St1 i g0 := D1.frame _ _ _ st1 fun c hc o e => hs0.extBut c o (fun q => S.z1 (q ▸ hc)) e
  have t2_0 : St2 i g0 := D2.frame _ _ _ st2 fun c hc o e => hs0.extBut c o (fun q => S.z2 (q ▸ hc)) e
  have t3_0 : St3 i g0 := D3.frame _ _ _ st3 fun c hc o e => hs0.extBut c o (fun q => S.z3 (q ▸ hc)) e
  have k0 : ∀ c o, c ≠ z → c ≠ TO → c ≠ i1 → c ≠ i2 → c ≠ i3 → hp.get? c = some o → g0.get? c = some o := fun c o q0 _ _ _ _ e => hs0.extBut c o q0 e
  simp only [List.zipIdx_cons, List.zipIdx_nil, List.forIn_cons, List.forIn_nil]
  refine wpAny_bind (wpAny_bind (wpAny_onRaise (m := zdraw b (.ref i1)) (zdraw_item (s := ⟨g0, g, d, tk0, os⟩) D1 hi1 t1_0 fun x1 d1 tk1 p1 n1 hd1 => ?_)))
  replace hd1 : Heap.SameBut i1 g0 d1 := hd1
  have hU1 : TupO d1 TO #[a1, a2, a3] := hd1.extBut _ _ (fun q => S.T1 (q ▸ S.m1)) hT0
  refine wpAny_bind (wpAny_seqItems (s := ⟨d1, g, d, tk1, os⟩) hU1 rfl ?_)
  refine wpAny_bind (upd_tup (s := ⟨d1, g, d, tk1, os⟩) hU1 (by simp) fun g1 hT1 hs1 => ?_)
  replace hs1 : Heap.SameBut TO d1 g1 := hs1
  replace hT1 : TupO g1 TO #[x1, a2, a3] := hT1
  have hz1 : ZipO g1 z TI TO .ellipsis b := hs1.extBut _ _ S.zTO (hd1.extBut _ _ (fun q => S.z1 (q ▸ S.m1)) hz0)
  have t1_1 : St1 (i + 1) g1 := D1.frame _ _ _ n1 fun c hc o e => hs1.extBut c o (fun q => S.T1 (q ▸ hc)) e
  have t2_1 : St2 i g1 := D2.frame _ _ _ t2_0 fun c hc o e => hs1.extBut c o (fun q => S.T2 (q ▸ hc)) (hd1.extBut c o (fun q => S.s1_2 (q ▸ hc)) e)
  have t3_1 : St3 i g1 := D3.frame _ _ _ t3_0 fun c hc o e => hs1.extBut c o (fun q => S.T3 (q ▸ hc)) (hd1.extBut c o (fun q => S.s1_3 (q ▸ hc)) e)
  have k1 : ∀ c o, c ≠ z → c ≠ TO → c ≠ i1 → c ≠ i2 → c ≠ i3 → hp.get? c = some o → g1.get? c = some o := fun c o qz qT q1 q2 q3 e => hs1.extBut c o qT (hd1.extBut c o q1 (k0 c o qz qT q1 q2 q3 e))
  have e1 : g1.objs.size = g0.objs.size := by rw [hs1.1, hd1.1]
  refine wpAny_bind (wpAny_letGo (wpAny_pure ?_))
  refine wpAny_bind (wpAny_bind (wpAny_onRaise (m := zdraw b (.ref i2)) (zdraw_item (s := ⟨g1, g, d, tk1, os⟩) D2 hi2 t2_1 fun x2 d2 tk2 p2 n2 hd2 => ?_)))
  replace hd2 : Heap.SameBut i2 g1 d2 := hd2
  have hU2 : TupO d2 TO #[x1, a2, a3] := hd2.extBut _ _ (fun q => S.T2 (q ▸ S.m2)) hT1
  refine wpAny_bind (wpAny_seqItems (s := ⟨d2, g, d, tk2, os⟩) hU2 rfl ?_)
  refine wpAny_bind (upd_tup (s := ⟨d2, g, d, tk2, os⟩) hU2 (by simp) fun g2 hT2 hs2 => ?_)
  replace hs2 : Heap.SameBut TO d2 g2 := hs2
  replace hT2 : TupO g2 TO #[x1, x2, a3] := hT2
  have hz2 : ZipO g2 z TI TO .ellipsis b := hs2.extBut _ _ S.zTO (hd2.extBut _ _ (fun q => S.z2 (q ▸ S.m2)) hz1)
  have t1_2 : St1 (i + 1) g2 := D1.frame _ _ _ t1_1 fun c hc o e => hs2.extBut c o (fun q => S.T1 (q ▸ hc)) (hd2.extBut c o (fun q => S.s2_1 (q ▸ hc)) e)
  have t2_2 : St2 (i + 1) g2 := D2.frame _ _ _ n2 fun c hc o e => hs2.extBut c o (fun q => S.T2 (q ▸ hc)) e
  have t3_2 : St3 i g2 := D3.frame _ _ _ t3_1 fun c hc o e => hs2.extBut c o (fun q => S.T3 (q ▸ hc)) (hd2.extBut c o (fun q => S.s2_3 (q ▸ hc)) e)
  have k2 : ∀ c o, c ≠ z → c ≠ TO → c ≠ i1 → c ≠ i2 → c ≠ i3 → hp.get? c = some o → g2.get? c = some o := fun c o qz qT q1 q2 q3 e => hs2.extBut c o qT (hd2.extBut c o q2 (k1 c o qz qT q1 q2 q3 e))
  have e2 : g2.objs.size = g1.objs.size := by rw [hs2.1, hd2.1]
  refine wpAny_bind (wpAny_letGo (wpAny_pure ?_))
  refine wpAny_bind (wpAny_bind (wpAny_onRaise (m := zdraw b (.ref i3)) (zdraw_item (s := ⟨g2, g, d, tk2, os⟩) D3 hi3 t3_2 fun x3 d3 tk3 p3 n3 hd3 => ?_)))
  replace hd3 : Heap.SameBut i3 g2 d3 := hd3
  have hU3 : TupO d3 TO #[x1, x2, a3] := hd3.extBut _ _ (fun q => S.T3 (q ▸ S.m3)) hT2
  refine wpAny_bind (wpAny_seqItems (s := ⟨d3, g, d, tk3, os⟩) hU3 rfl ?_)
  refine wpAny_bind (upd_tup (s := ⟨d3, g, d, tk3, os⟩) hU3 (by simp) fun g3 hT3 hs3 => ?_)
  replace hs3 : Heap.SameBut TO d3 g3 := hs3
  replace hT3 : TupO g3 TO #[x1, x2, x3] := hT3
  have hz3 : ZipO g3 z TI TO .ellipsis b := hs3.extBut _ _ S.zTO (hd3.extBut _ _ (fun q => S.z3 (q ▸ S.m3)) hz2)
  have t1_3 : St1 (i + 1) g3 := D1.frame _ _ _ t1_2 fun c hc o e => hs3.extBut c o (fun q => S.T1 (q ▸ hc)) (hd3.extBut c o (fun q => S.s3_1 (q ▸ hc)) e)
  have t2_3 : St2 (i + 1) g3 := D2.frame _ _ _ t2_2 fun c hc o e => hs3.extBut c o (fun q => S.T2 (q ▸ hc)) (hd3.extBut c o (fun q => S.s3_2 (q ▸ hc)) e)
  have t3_3 : St3 (i + 1) g3 := D3.frame _ _ _ n3 fun c hc o e => hs3.extBut c o (fun q => S.T3 (q ▸ hc)) e
  have k3 : ∀ c o, c ≠ z → c ≠ TO → c ≠ i1 → c ≠ i2 → c ≠ i3 → hp.get? c = some o → g3.get? c = some o := fun c o qz qT q1 q2 q3 e => hs3.extBut c o qT (hd3.extBut c o q3 (k2 c o qz qT q1 q2 q3 e))
  have e3 : g3.objs.size = g2.objs.size := by rw [hs3.1, hd3.1]
  refine wpAny_bind (wpAny_letGo (wpAny_pure ?_))
  refine wpAny_pure ?_
  refine wpAny_bind (wpAny_seqItems (s := ⟨g3, g, d, tk3, os⟩) hT3 rfl ?_)
  refine wpAny_bind (wpAny_newTuple ?_)
  have hsz : g3.objs.size = hp.objs.size := by rw [e3, e2, e1, hs0.1]
  have hlt : z < g3.objs.size := Heap.lt_size hz3
  refine wpAny_bind ?_
  unfold Builtin.SmallTypes.ownedTupleHandOut
  have hy : ZipO (g3.push { cls := .type "tuple", data := .seq #[x1, x2, x3] }) z TI TO .ellipsis b := Heap.get?_push_of_some _ hz3
  refine wpAny_bind (wpAny_setField_rec hy (by simp) fun u1 hu1 hv1 => wpAny_setField_rec hu1 (by simp) fun u2 hu2 hv2 => ?_)
  have up : ∀ c o, c ≠ z → g3.get? c = some o → u2.get? c = some o := fun c o q e => hv2.extBut c o q (hv1.extBut c o q (Heap.get?_push_of_some _ e))
  have hN : TupO u2 g3.objs.size #[x1, x2, x3] := hv2.extBut _ _ (Nat.ne_of_gt hlt) (hv1.extBut _ _ (Nat.ne_of_gt hlt) (Heap.get?_push_size _ rfl))
  have hZ : ZipO u2 z TI TO (rawInt g3.objs.size) b := hu2
  rw [hsz] at hN hZ
  refine wpAny_pure ⟨_, rfl, ?_⟩
  show Q (.ref g3.objs.size) ⟨u2, g, d, tk3, os⟩
  rw [hsz]
  exact hQ x1 x2 x3 u2 tk3 p1 p2 p3 hZ (up _ _ S.zTO.symm hT3) (D1.frame _ _ _ t1_3 fun c hc o e => up c o (fun q => S.z1 (q ▸ hc)) e) (D2.frame _ _ _ t2_3 fun c hc o e => up c o (fun q => S.z2 (q ▸ hc)) e) (D3.frame _ _ _ t3_3 fun c hc o e => up c o (fun q => S.z3 (q ▸ hc)) e) hN fun c o qz qT q1 q2 q3 e => up c o qz (k3 c o qz qT q1 q2 q3 e)
theorem next_end3 {z TI TO i1 i2 i3 : Addr} {fp1 fp2 fp3 : List Addr} {n : Nat} {P1 P2 P3 : Nat → Value → Prop} {St1 St2 St3 : Nat → Heap → Prop} {a1 a2 a3 : Value} {Q : Fin → Shared → Prop} (hh : A.handled = none) (S : Sep3 z TI TO i1 i2 i3 fp1 fp2 fp3) (D1 : Draws prog w A i1 fp1 n P1 St1) (D2 : Draws prog w A i2 fp2 n P2 St2) (D3 : Draws prog w A i3 fp3 n P3 St3)
    (hz : ZipO s.heap z TI TO .none b) (hTI : TupO s.heap TI #[.ref i1, .ref i2, .ref i3]) (hTO : TupO s.heap TO #[a1, a2, a3]) (st1 : St1 n s.heap) (st2 : St2 n s.heap) (st3 : St3 n s.heap)
    (hE : ∀ h' e, (∀ c o, c ≠ z → c ≠ TO → c ≠ i1 → c ≠ i2 → c ≠ i3 → s.heap.get? c = some o → h'.get? c = some o) → (∃ o, h'.get? e = some o ∧ o.cls = .type "StopIteration") → E (.ref e) { s with heap := h' }) :
    wpAny (model prog w) A (Builtin.«zip.__next__» ⟨[.ref z], []⟩) Q E s := by
  obtain ⟨hp, g, d, tk0, os⟩ := s
  refine wpAny_bind (m := field (.ref z) 2) (wpAny_field hz rfl (x := .bool b) rfl ?_)
  refine wpAny_bind (m := field (.ref z) 3) (wpAny_field hz rfl (x := .ref TI) rfl ?_)
  refine wpAny_bind (wpAny_seqItems hTI rfl ?_)
  show wpAny _ _ (Builtin.SmallTypes.ownedTupleIsFree (.ref z) >>= _) _ _ _
  rw [val_b]
  refine wpAny_bind ?_
  unfold Builtin.SmallTypes.ownedTupleIsFree
  refine wpAny_bind (wpAny_field hz rfl (x := .none) rfl (wpAny_pure ?_))
  simp only [if_true]
  refine wpAny_bind (wpAny_rule (wpAny_bind (wpAny_field hz rfl (x := .ref TO) rfl ?_)))
  refine wpAny_bind (wpAny_setField_rec hz (by simp) fun g0 hz0 hs0 => wpAny_bind ?_)
  replace hs0 : Heap.SameBut z hp g0 := hs0
  replace hz0 : ZipO g0 z TI TO .ellipsis b := hz0
  have t1_0 : St1 n g0 := D1.frame _ _ _ st1 fun c hc o e => hs0.extBut c o (fun q => S.z1 (q ▸ hc)) e
  have t2_0 : St2 n g0 := D2.frame _ _ _ st2 fun c hc o e => hs0.extBut c o (fun q => S.z2 (q ▸ hc)) e
  have t3_0 : St3 n g0 := D3.frame _ _ _ st3 fun c hc o e => hs0.extBut c o (fun q => S.z3 (q ▸ hc)) e
  simp only [List.zipIdx_cons, List.zipIdx_nil, List.forIn_cons, List.forIn_nil]
  refine wpAny_bind (wpAny_bind (wpAny_onRaise ?_))
  cases b with
  | false =>
    refine wpAny_bind (m := Builtin.SmallTypes.nextOf (.ref i1)) (D1.done ⟨g0, g, d, tk0, os⟩ _ _ t1_0 fun y e hy he => ?_)
    replace hy : Heap.ExtBut i1 g0 y := hy
    obtain ⟨oe, hoe, hce⟩ := he
    replace hoe : y.get? e = some oe := hoe
    have hzy : ZipO y z TI TO .ellipsis false := hy _ _ (fun q => S.z1 (q ▸ S.m1)) hz0
    have hez : e ≠ z := fun x => by subst x; rw [hzy] at hoe; cases hoe; simp at hce
    refine wpAny_setField_rec (s := ⟨y, g, d, tk0, os⟩) hzy (by simp) fun y2 _ hv => ?_
    replace hv : Heap.SameBut z y y2 := hv
    exact hE y2 e (fun c o qz qT q1 q2 q3 x => hv.extBut c o qz (hy c o q1 (hs0.extBut c o qz x))) ⟨oe, hv.extBut _ _ hez hoe, hce⟩
  | true =>
    refine zend_strict (s := ⟨g0, g, d, tk0, os⟩) D1 t1_0 fun y hy => ?_
    replace hy : Heap.ExtBut i1 g0 y := hy
    have hzy : ZipO y z TI TO .ellipsis true := hy _ _ (fun q => S.z1 (q ▸ S.m1)) hz0
    have t2_1 : St2 n y := D2.frame _ _ _ t2_0 fun c hc o e => hy c o (fun q => S.s1_2 (q ▸ hc)) e
    have t3_1 : St3 n y := D3.frame _ _ _ t3_0 fun c hc o e => hy c o (fun q => S.s1_3 (q ▸ hc)) e
    refine wpAny_bind (wpAny_setField_rec (s := ⟨y, g, d, tk0, os⟩) hzy (by simp) fun y1 _ hv1 => ?_)
    replace hv1 : Heap.SameBut z y y1 := hv1
    have r2_1 : St2 n y1 := D2.frame _ _ _ t2_1 fun c hc o e => hv1.extBut c o (fun q => S.z2 (q ▸ hc)) e
    have r3_1 : St3 n y1 := D3.frame _ _ _ t3_1 fun c hc o e => hv1.extBut c o (fun q => S.z3 (q ▸ hc)) e
    have k1 : ∀ c o, c ≠ z → c ≠ TO → c ≠ i1 → c ≠ i2 → c ≠ i3 → hp.get? c = some o → y1.get? c = some o := fun c o qz qT q1 q2 q3 e => hv1.extBut c o qz (hy c o q1 (hs0.extBut c o qz e))
    refine wpAny_bind ?_
    refine wpAny_bind ?_
    simp only [List.drop_succ_cons, List.drop_zero, List.zipIdx_cons, List.zipIdx_nil, List.forIn_cons, List.forIn_nil]
    refine wpAny_bind (wpAny_bind (zend_strict (s := ⟨y1, g, d, tk0, os⟩) D2 r2_1 fun y2 hy2 => ?_))
    replace hy2 : Heap.ExtBut i2 y1 y2 := hy2
    have k2 : ∀ c o, c ≠ z → c ≠ TO → c ≠ i1 → c ≠ i2 → c ≠ i3 → hp.get? c = some o → y2.get? c = some o := fun c o qz qT q1 q2 q3 e => hy2 c o q2 (k1 c o qz qT q1 q2 q3 e)
    have r3_2 : St3 n y2 := D3.frame _ _ _ r3_1 fun c hc o e => hy2 c o (fun q => S.s2_3 (q ▸ hc)) e
    refine wpAny_pure ?_
    refine wpAny_bind (wpAny_bind (zend_strict (s := ⟨y2, g, d, tk0, os⟩) D3 r3_2 fun y3 hy3 => ?_))
    replace hy3 : Heap.ExtBut i3 y2 y3 := hy3
    have k3 : ∀ c o, c ≠ z → c ≠ TO → c ≠ i1 → c ≠ i2 → c ≠ i3 → hp.get? c = some o → y3.get? c = some o := fun c o qz qT q1 q2 q3 e => hy3 c o q3 (k2 c o qz qT q1 q2 q3 e)
    refine wpAny_pure ?_
    refine wpAny_pure ?_
    exact wpAny_bind (wpAny_rule (stop_it (s := ⟨y3, g, d, tk0, os⟩) hh fun h2 e kk he => hE h2 e (fun c o qz qT q1 q2 q3 x => kk c o (k3 c o qz qT q1 q2 q3 x)) he))
theorem py_item3 {z TI TO i1 i2 i3 : Addr} {fp1 fp2 fp3 : List Addr} {n1 n2 n3 i : Nat} {P1 P2 P3 : Nat → Value → Prop} {St1 St2 St3 : Nat → Heap → Prop} {a1 a2 a3 : Value} {Q : Option Value → Shared → Prop} (S : Sep3 z TI TO i1 i2 i3 fp1 fp2 fp3) (D1 : Draws prog w A.in1 i1 fp1 n1 P1 St1) (D2 : Draws prog w A.in1 i2 fp2 n2 P2 St2) (D3 : Draws prog w A.in1 i3 fp3 n3 P3 St3)
    (hz : ZipO s.heap z TI TO .none b) (hTI : TupO s.heap TI #[.ref i1, .ref i2, .ref i3]) (hTO : TupO s.heap TO #[a1, a2, a3]) (st1 : St1 i s.heap) (st2 : St2 i s.heap) (st3 : St3 i s.heap) (hi1 : i < n1) (hi2 : i < n2) (hi3 : i < n3)
    (hQ : ∀ x1 x2 x3 h' tk, P1 i x1 → P2 i x2 → P3 i x3 → ZipO h' z TI TO (rawInt s.heap.objs.size) b → TupO h' TO #[x1, x2, x3] → St1 (i + 1) h' → St2 (i + 1) h' → St3 (i + 1) h' → TupO h' s.heap.objs.size #[x1, x2, x3] →
      (∀ c o, c ≠ z → c ≠ TO → c ≠ i1 → c ≠ i2 → c ≠ i3 → s.heap.get? c = some o → h'.get? c = some o) → Q (some (.ref s.heap.objs.size)) { s with heap := h', toks := tk }) : wpAny (model prog w) A (pyNext (.ref z)) Q E s := by
  have hT : s.TypeIs (.ref z) "zip" := ⟨_, hz, rfl⟩
  unfold pyNext
  refine wpAny_bind (wpAny_attempt (wpAny_callSpecial?_slot (name := Str.ofString "__next__") hT F.slot_zip_next (wpAny_call_entry F.slot_zip_next hT F.entry_zip_next ?_ (F.args_zip_next_1 _))))
  exact next_item3 S D1 D2 D3 hz hTI hTO st1 st2 st3 hi1 hi2 hi3 fun x1 x2 x3 h2 tk p1 p2 p3 q1 q2 u1 u2 u3 q3 q4 => wpAny_pure (hQ x1 x2 x3 h2 tk p1 p2 p3 q1 q2 u1 u2 u3 q3 q4)
theorem py_end3 {z TI TO i1 i2 i3 : Addr} {fp1 fp2 fp3 : List Addr} {n : Nat} {P1 P2 P3 : Nat → Value → Prop} {St1 St2 St3 : Nat → Heap → Prop} {a1 a2 a3 : Value} {Q : Option Value → Shared → Prop} (hh : A.handled = none) (S : Sep3 z TI TO i1 i2 i3 fp1 fp2 fp3) (D1 : Draws prog w A.in1 i1 fp1 n P1 St1) (D2 : Draws prog w A.in1 i2 fp2 n P2 St2) (D3 : Draws prog w A.in1 i3 fp3 n P3 St3)
    (hz : ZipO s.heap z TI TO .none b) (hTI : TupO s.heap TI #[.ref i1, .ref i2, .ref i3]) (hTO : TupO s.heap TO #[a1, a2, a3]) (st1 : St1 n s.heap) (st2 : St2 n s.heap) (st3 : St3 n s.heap)
    (hQ : ∀ h', (∀ c o, c ≠ z → c ≠ TO → c ≠ i1 → c ≠ i2 → c ≠ i3 → s.heap.get? c = some o → h'.get? c = some o) → Q none { s with heap := h' }) : wpAny (model prog w) A (pyNext (.ref z)) Q E s := by
  have hT : s.TypeIs (.ref z) "zip" := ⟨_, hz, rfl⟩
  unfold pyNext
  refine wpAny_bind (wpAny_attempt (wpAny_callSpecial?_slot (name := Str.ofString "__next__") hT F.slot_zip_next (wpAny_call_entry F.slot_zip_next hT F.entry_zip_next ?_ (F.args_zip_next_1 _))))
  refine next_end3 (A := A.in1) hh S D1 D2 D3 hz hTI hTO st1 st2 st3 fun h2 e kk he => ?_
  obtain ⟨o, ho, hc⟩ := he
  exact wpAny_bind (wpAny_isInstance (T := "StopIteration") (b := true) ⟨o, ho, hc⟩ isSubtype_stop (wpAny_pure (hQ _ kk)))
theorem typeCall_strict3 (v1 v2 v3 x : Value) : checkTypeCall "zip" ⟨[v1, v2, v3], [(Str.ofString "strict", x)]⟩ = pure () := by kernel_rfl
theorem newCall_strict3 (v1 v2 v3 x : Value) : checkBuiltinCall "zip.__new__" ⟨[.type "zip", v1, v2, v3], [(Str.ofString "strict", x)]⟩ = pure () := by kernel_rfl
theorem initArgs_strict3 (obj v1 v2 v3 x : Value) : argsOk "object.__init__" ⟨[obj, v1, v2, v3], [(Str.ofString "strict", x)]⟩ := by unfold argsOk; kernel_rfl
abbrev sT3 (h : Heap) (o1 o2 o3 : Obj) : Heap := ((((h.push o1).push o2).push o3).push { cls := .type "tuple", data := .seq #[.ref h.objs.size, .ref (h.push o1).objs.size, .ref ((h.push o1).push o2).objs.size] })
abbrev sO3 (h : Heap) (o1 o2 o3 : Obj) : Heap := (sT3 h o1 o2 o3).push { cls := .type "tuple", data := .seq #[.none, .none, .none] }
abbrev sZ3 (h : Heap) (o1 o2 o3 : Obj) : Heap := (sO3 h o1 o2 o3).push { cls := .type "zip", data := .fields #[.none, .bool false, .bool true, .ref (((h.push o1).push o2).push o3).objs.size, .ref (sT3 h o1 o2 o3).objs.size] }
theorem meets_strict3 {v1 v2 v3 : Value} {o1 o2 o3 : Obj} {G1 G2 G3 : Heap → Prop} (B1 : Begins v1 o1 G1) (B2 : Begins v2 o2 G2) (B3 : Begins v3 o3 G3) :
    Meets (Builtin.«zip.__new__» ⟨[.type "zip", v1, v2, v3], [(Str.ofString "strict", .bool true)]⟩) (fun _ R s => (G1 s.heap ∧ G2 s.heap ∧ G3 s.heap) ∧ R (.ok (.ret (.ref (sO3 s.heap o1 o2 o3).objs.size))) { s with heap := (sZ3 s.heap o1 o2 o3) }) :=
  .of_wp fun prog w A R s h => by
    obtain ⟨hp, g, d, tk, os⟩ := s
    obtain ⟨⟨h1, h2, h3⟩, h⟩ := h
    have hsub := sub_zip
    have e1 : (Str.ofString "strict" != ("strict" : Str)) = false := by decide +kernel
    have w1 : ∀ {A' : Around} {E : Value → Shared → Prop} {Q : Value → Shared → Prop}, Q (.ref hp.objs.size) ⟨(hp.push o1), g, d, tk, os⟩ → wpAny (model prog w) A' (pyIter v1) Q E ⟨hp, g, d, tk, os⟩ := fun q => B1.iter prog w _ _ ⟨hp, g, d, tk, os⟩ _ (B1.keeps _ _ h1 fun c u e => e) q
    have w2 : ∀ {A' : Around} {E : Value → Shared → Prop} {Q : Value → Shared → Prop}, Q (.ref (hp.push o1).objs.size) ⟨((hp.push o1).push o2), g, d, tk, os⟩ → wpAny (model prog w) A' (pyIter v2) Q E ⟨(hp.push o1), g, d, tk, os⟩ := fun q => B2.iter prog w _ _ ⟨(hp.push o1), g, d, tk, os⟩ _ (B2.keeps _ _ h2 fun c u e => (Heap.get?_push_of_some _ e)) q
    have w3 : ∀ {A' : Around} {E : Value → Shared → Prop} {Q : Value → Shared → Prop}, Q (.ref ((hp.push o1).push o2).objs.size) ⟨(((hp.push o1).push o2).push o3), g, d, tk, os⟩ → wpAny (model prog w) A' (pyIter v3) Q E ⟨((hp.push o1).push o2), g, d, tk, os⟩ := fun q => B3.iter prog w _ _ ⟨((hp.push o1).push o2), g, d, tk, os⟩ _ (B3.keeps _ _ h3 fun c u e => (Heap.get?_push_of_some _ (Heap.get?_push_of_some _ e))) q
    wp_walk using w1, w2, w3
    exact ⟨_, rfl, h⟩
/-- zip(.., strict=True) of 3: its new cells -/
theorem begins_strict3 {v1 v2 v3 : Value} {o1 o2 o3 : Obj} {G1 G2 G3 : Heap → Prop} {Q : Value → Shared → Prop} (B1 : Begins v1 o1 G1) (B2 : Begins v2 o2 G2) (B3 : Begins v3 o3 G3) (h1 : G1 s.heap) (h2 : G2 s.heap) (h3 : G3 s.heap)
    (h : ∀ h', ZipO h' (s.heap.objs.size + 5) (s.heap.objs.size + 3) (s.heap.objs.size + 4) .none true → TupO h' (s.heap.objs.size + 3) #[.ref s.heap.objs.size, .ref (s.heap.objs.size + 1), .ref (s.heap.objs.size + 2)] → TupO h' (s.heap.objs.size + 4) #[.none, .none, .none] → h'.get? s.heap.objs.size = some o1 → h'.get? (s.heap.objs.size + 1) = some o2 → h'.get? (s.heap.objs.size + 2) = some o3 → (∀ c o, s.heap.get? c = some o → h'.get? c = some o) → Q (.ref (s.heap.objs.size + 5)) { s with heap := h' }) :
    wpAny (model prog w) A (call (.type "zip") [v1, v2, v3] [(Str.ofString "strict", .bool true)]) Q E s := by
  refine callType_newKw F.called_zip (by decide) (typeCall_strict3 _ _ _ _) (newCall_strict3 _ _ _ _) (fun obj => initArgs_strict3 obj _ _ _ _) F.entry_zip_new (meets_strict3 B1 B2 B3) ⟨⟨h1, h2, h3⟩, ?_⟩
  have z1 : (s.heap.push o1).objs.size = s.heap.objs.size + 1 := by rw [Heap.size_push]
  have z2 : ((s.heap.push o1).push o2).objs.size = s.heap.objs.size + 2 := by rw [Heap.size_push, z1]
  have z3 : (((s.heap.push o1).push o2).push o3).objs.size = s.heap.objs.size + 3 := by rw [Heap.size_push, z2]
  have z4 : (sT3 s.heap o1 o2 o3).objs.size = s.heap.objs.size + 4 := by rw [Heap.size_push, z3]
  have z5 : (sO3 s.heap o1 o2 o3).objs.size = s.heap.objs.size + 5 := by rw [Heap.size_push, z4]
  have z6 : (sZ3 s.heap o1 o2 o3).objs.size = s.heap.objs.size + 6 := by rw [Heap.size_push, z5]
  have q0 : (sZ3 s.heap o1 o2 o3).get? s.heap.objs.size = some o1 := (Heap.get?_push_of_some _ (Heap.get?_push_of_some _ (Heap.get?_push_of_some _ (Heap.get?_push_of_some _ (Heap.get?_push_of_some _ (Heap.get?_push_size _ B1.free))))))
  have q1 : (sZ3 s.heap o1 o2 o3).get? (s.heap.push o1).objs.size = some o2 := (Heap.get?_push_of_some _ (Heap.get?_push_of_some _ (Heap.get?_push_of_some _ (Heap.get?_push_of_some _ (Heap.get?_push_size _ B2.free)))))
  rw [z1] at q1
  have q2 : (sZ3 s.heap o1 o2 o3).get? ((s.heap.push o1).push o2).objs.size = some o3 := (Heap.get?_push_of_some _ (Heap.get?_push_of_some _ (Heap.get?_push_of_some _ (Heap.get?_push_size _ B3.free))))
  rw [z2] at q2
  have q3 : (sZ3 s.heap o1 o2 o3).get? (((s.heap.push o1).push o2).push o3).objs.size = some ({ cls := .type "tuple", data := .seq #[.ref s.heap.objs.size, .ref (s.heap.push o1).objs.size, .ref ((s.heap.push o1).push o2).objs.size] } : Obj) := (Heap.get?_push_of_some _ (Heap.get?_push_of_some _ (Heap.get?_push_size _ rfl)))
  rw [z3] at q3
  have q4 : (sZ3 s.heap o1 o2 o3).get? (sT3 s.heap o1 o2 o3).objs.size = some ({ cls := .type "tuple", data := .seq #[.none, .none, .none] } : Obj) := (Heap.get?_push_of_some _ (Heap.get?_push_size _ rfl))
  rw [z4] at q4
  have q5 : (sZ3 s.heap o1 o2 o3).get? (sO3 s.heap o1 o2 o3).objs.size = some ({ cls := .type "zip", data := .fields #[.none, .bool false, .bool true, .ref (((s.heap.push o1).push o2).push o3).objs.size, .ref (sT3 s.heap o1 o2 o3).objs.size] } : Obj) := (Heap.get?_push_size _ rfl)
  rw [z5] at q5
  rw [z2, z1] at q3
  rw [z4, z3] at q5
  show _ ∧ _
  rw [z5]
  exact ⟨⟨_, q5, rfl⟩, h _ q5 q3 q4 q0 q1 q2 fun c o e => (Heap.get?_push_of_some _ (Heap.get?_push_of_some _ (Heap.get?_push_of_some _ (Heap.get?_push_of_some _ (Heap.get?_push_of_some _ (Heap.get?_push_of_some _ e))))))⟩
end
end CZ

namespace CZ
open PySem PySem.Spec PyProof.Rows L2
/-- a list (false) or a tuple (true) that is read -/
def SqK (K : PySem.W.Frag) (H : Hp) (p : Bool × Addr) (xs : List V) : Prop := if p.1 = true then SqT K H p.2 xs else SqL K H p.2 xs
def SqIt (h : Heap) (it : Addr) (p : Bool × Addr) (i : Nat) : Prop := if p.1 = true then h.IsTupleIter it p.2 i else h.IsListIter it p.2 i
def SeqIs (h : Heap) (p : Bool × Addr) (its : List Value) : Prop := if p.1 = true then h.IsTuple p.2 its.toArray else h.IsList p.2 its.toArray
/-- the iterator's object as it begins -/
def itO (p : Bool × Addr) : Obj := if p.1 = true then { cls := .type "tuple_iterator", data := .fields #[.ref p.2, .int 0 0] } else { cls := .type "list_iterator", data := .fields #[.ref p.2, .int 0 0] }
theorem SqIt.at {h h' : Heap} {it : Addr} {p : Bool × Addr} {i : Nat} (x : SqIt h it p i) (k : ∀ o, h.get? it = some o → h'.get? it = some o) : SqIt h' it p i := by
  obtain ⟨b, a⟩ := p
  cases b
  · exact Heap.IsListIter.at (show h.IsListIter it a i from x) k
  · exact Heap.IsTupleIter.at (show h.IsTupleIter it a i from x) k
theorem SqIt.obj {h : Heap} {it : Addr} {p : Bool × Addr} {i : Nat} (x : SqIt h it p i) : ∃ o, h.get? it = some o ∧ ∀ v, o.data ≠ .cell v := by
  obtain ⟨b, a⟩ := p
  cases b
  · obtain ⟨o, e, _, d⟩ := (show h.IsListIter it a i from x)
    exact ⟨o, e, fun v q => by rw [d] at q; cases q⟩
  · obtain ⟨o, e, _, d⟩ := (show h.IsTupleIter it a i from x)
    exact ⟨o, e, fun v q => by rw [d] at q; cases q⟩
theorem SqIt.begin {h : Heap} {it : Addr} {p : Bool × Addr} (e : h.get? it = some (itO p)) : SqIt h it p 0 := by
  obtain ⟨b, a⟩ := p
  cases b
  · exact ⟨_, e, rfl, rfl⟩
  · exact ⟨_, e, rfl, rfl⟩
theorem begins_of (p : Bool × Addr) (its : List Value) : Begins (.ref p.2) (itO p) (fun h => SeqIs h p its) := by
  obtain ⟨b, a⟩ := p
  cases b
  · exact begins_list a its.toArray
  · exact begins_tuple a its.toArray
theorem draws_of {prog : Program} {w : World} {A : Around} (hh : A.handled = none) (it : Addr) (p : Bool × Addr) (ne : p.2 ≠ it) (its : List Value) :
    Draws prog w A it [it, p.2] its.toArray.size (fun i v => its.toArray[i]? = some v) (fun i h => SqIt h it p i ∧ SeqIs h p its) := by
  obtain ⟨b, a⟩ := p
  cases b
  · exact Draws.list hh it a ne its.toArray
  · exact Draws.tuple hh it a ne its.toArray
section
variable {X : Cx} {pins : List (Addr × Obj)} {σ : L2.St} {H : Hp} {s : Shared} {p : Bool × Addr} {xs ys : List V}
theorem sq_seq (I : Inv X pins σ H s) (h : SqK X.K H p xs) : ∃ its : List Value, Vals xs its ∧ SeqIs s.heap p its ∧ p.2 < s.heap.objs.size := by
  obtain ⟨b, a⟩ := p
  cases b
  · obtain ⟨its, rv, q, _⟩ := I.list (show SqL X.K H a xs from h)
    exact ⟨its, rv, q.isList, q.lt⟩
  · obtain ⟨its, rv, q, _⟩ := I.tuple (show SqT X.K H a xs from h)
    obtain ⟨o, ho, _⟩ := id q
    exact ⟨its, rv, q, Heap.lt_size ho⟩
theorem sq_inj (I : Inv X pins σ H s) (h : SqK X.K H p xs) (h2 : SqK X.K H p ys) : xs = ys := by
  obtain ⟨b, a⟩ := p
  cases b
  · exact I.list_inj (show SqL X.K H a xs from h) h2
  · exact I.tuple_inj (show SqT X.K H a xs from h) h2
end
/-- what a zip of lists and tuples of one length gives -/
def ItZ (K : PySem.W.Frag) (l : List (Bool × Addr)) : It :=
  ⟨fun i H => ∃ vs : List V, Paired (fun p v => ∃ xs, SqK K H p xs ∧ xs[i]? = some v) l vs,
    fun i H v H2 => ∃ (T : Addr) (vs : List V), v = .ref T ∧ H T = none ∧ H2 = upd H T (.tup vs) ∧ Paired (fun p v => ∀ xs, SqK K H p xs → xs[i]? = some v) l vs,
    fun i H => ∀ p ∈ l, ∃ xs, SqK K H p xs ∧ xs.length = i⟩
def YRow (xss : List (List V)) : Nat → Hp → V → Hp → Prop := fun i H v H2 => ∃ (T : Addr) (vs : List V), v = .ref T ∧ H T = none ∧ H2 = upd H T (.tup vs) ∧ Paired (fun (xs : List V) v => xs[i]? = some v) xss vs
theorem pair_go {K : PySem.W.Frag} {H : Hp} {i : Nat} : ∀ {l : List (Bool × Addr)} {xss : List (List V)}, Paired (fun p xs => SqK K H p xs) l xss → (∀ xs ∈ xss, i < xs.length) → ∃ vs, Paired (fun p v => ∃ xs, SqK K H p xs ∧ xs[i]? = some v) l vs
  | _, _, .nil, _ => ⟨[], .nil⟩
  | _, _, .cons (b := xs) r t, h => by
    obtain ⟨vs, q⟩ := pair_go t fun ys hy => h ys (List.mem_cons_of_mem _ hy)
    have hi := h xs List.mem_cons_self
    exact ⟨xs[i] :: vs, .cons ⟨xs, r, List.getElem?_eq_getElem hi⟩ q⟩
theorem pair_row {K : PySem.W.Frag} {H : Hp} {i : Nat} : ∀ {l : List (Bool × Addr)} {xss : List (List V)} {vs : List V}, Paired (fun p xs => SqK K H p xs) l xss → Paired (fun p v => ∀ xs, SqK K H p xs → xs[i]? = some v) l vs → Paired (fun (xs : List V) v => xs[i]? = some v) xss vs
  | _, _, _, .nil, .nil => .nil
  | _, _, _, .cons r t, .cons q u => .cons (q _ r) (pair_row t u)
theorem pair_stop {K : PySem.W.Frag} {H : Hp} {n : Nat} : ∀ {l : List (Bool × Addr)} {xss : List (List V)}, Paired (fun p xs => SqK K H p xs) l xss → (∀ xs ∈ xss, xs.length = n) → ∀ p ∈ l, ∃ xs, SqK K H p xs ∧ xs.length = n
  | _, _, .nil, _, _, hp => nomatch hp
  | _, _, .cons r t, h, p, hp => by
    rcases List.mem_cons.mp hp with e | hp
    · rw [e]
      exact ⟨_, r, h _ List.mem_cons_self⟩
    · exact pair_stop t (fun ys hy => h ys (List.mem_cons_of_mem _ hy)) p hp
theorem walk_rows {K : PySem.W.Frag} {l : List (Bool × Addr)} {xss : List (List V)} {n : Nat} (hn : ∀ xs ∈ xss, xs.length = n) : Walk (ItZ K l) n (fun H => Paired (fun p xs => SqK K H p xs) l xss) (YRow xss) :=
  ⟨fun i H hi q => pair_go q fun xs hx => by rw [hn xs hx]; exact hi, fun H q => pair_stop q hn, fun i H x H2 _ q y => by
    obtain ⟨T, vs, h1, h2, h3, h4⟩ := y
    exact ⟨T, vs, h1, h2, h3, pair_row q h4⟩⟩
/-- the reading of zip(..): which are tuples is told by the flags -/
def iZ (K : PySem.W.Frag) (fl : List Bool) (ta : TA) : TI := fun σ H R => ta σ H fun vs H1 => ∃ l : List Addr, vs = l.map V.ref ∧ l.length = fl.length ∧ (∀ p ∈ fl.zip l, ∃ xs, SqK K H1 p xs) ∧ R (ItZ K (fl.zip l)) H1
theorem nin_new {M a : Nat} (j k : Nat) (h : a < M) (hjk : j ≠ k) : M + j ∉ [M + k, a] := by
  simp only [List.mem_cons, List.mem_nil_iff, or_false, not_or]
  omega
theorem looks_ty {M : Model} {h : Heap} (T : String) (_ : True) : ∃ k, (k = Keeper.frame ∨ k = Keeper.machine ∨ k = Keeper.boundFrame) ∧ PySem.W.Looks M h (keeperOf (.type T)) k := ⟨_, .inr (.inl rfl), PySem.W.Looks.of_pure rfl⟩
end CZ

namespace CZ
open PySem PySem.Spec PyProof.Rows L2
theorem turn_z2 {P : Program} {w : World} {K : PySem.W.Frag} {elts : List Expr} {kk : Nat} {tpos : Pos} {z TI TO i1 i2 : Addr} {p1 p2 : Bool × Addr} {b : Bool} (S : Sep2 z TI TO i1 i2 [i1, p1.2] [i2, p2.2]) (ne1 : p1.2 ≠ i1) (ne2 : p2.2 ≠ i2) :
    Turn P w K (.Tuple elts kk tpos) (ItZ K [p1, p2]) [z, TI, TO, i1, i2] z (fun i h => ZipO h z TI TO .none b ∧ TupO h TI #[.ref i1, .ref i2] ∧ (∃ a1 a2, TupO h TO #[a1, a2]) ∧ SqIt h i1 p1 i ∧ SqIt h i2 p2 i) where
  mem := by simp
  obj := fun i h st c hc => by
    obtain ⟨hz, hTI, ⟨a1, a2, hTO⟩, h1, h2⟩ := st
    have e : c = z ∨ c = TI ∨ c = TO ∨ c = i1 ∨ c = i2 := by simpa using hc
    rcases e with q | q | q | q | q
    · rw [q]; exact ⟨_, hz, fun v q => nomatch q⟩
    · rw [q]; exact ⟨_, hTI, fun v q => nomatch q⟩
    · rw [q]; exact ⟨_, hTO, fun v q => nomatch q⟩
    · rw [q]; exact h1.obj
    · rw [q]; exact h2.obj
  keep := fun i h h2 st k => by
    obtain ⟨hz, hTI, ⟨a1, a2, hTO⟩, h1, h2⟩ := st
    exact ⟨k z (by simp) _ hz, k TI (by simp) _ hTI, ⟨a1, a2, k TO (by simp) _ hTO⟩, h1.at fun o q => k i1 (by simp) o q, h2.at fun o q => k i2 (by simp) o q⟩
  item := by
    intro X hP hw hK hc i pins s σ H E I hf st hg
    subst hP hw hK
    obtain ⟨hz, hTI, ⟨a1, a2, hTO⟩, h1, h2⟩ := st
    obtain ⟨vs, hv⟩ := hg
    cases hv with
    | cons r1 hv1 =>
      rename_i v1 ws1
      obtain ⟨xs1, hq1, hx1⟩ := r1
      obtain ⟨its1, rv1, q1, _⟩ := sq_seq I hq1
      obtain ⟨u1, hu1, ru1⟩ := rv1.get hx1
      have g1 : its1.toArray[i]? = some u1 := by simpa using hu1
      have l1 : i < its1.toArray.size := by have := (List.getElem?_eq_some_iff.mp hu1).1; simpa using this
      cases hv1 with
      | cons r2 hv2 =>
        rename_i v2 ws2
        obtain ⟨xs2, hq2, hx2⟩ := r2
        obtain ⟨its2, rv2, q2, _⟩ := sq_seq I hq2
        obtain ⟨u2, hu2, ru2⟩ := rv2.get hx2
        have g2 : its2.toArray[i]? = some u2 := by simpa using hu2
        have l2 : i < its2.toArray.size := by have := (List.getElem?_eq_some_iff.mp hu2).1; simpa using this
        cases hv2
        have hzl : z < s.heap.objs.size := Heap.lt_size hz
        refine py_item2 S (draws_of (A := X.A.in1) (I.ok.hd hc) i1 p1 ne1 its1) (draws_of (A := X.A.in1) (I.ok.hd hc) i2 p2 ne2 its2) hz hTI hTO ⟨h1, q1⟩ ⟨h2, q2⟩ l1 l2 fun x1 x2 hA tk y1 y2 z2 TO2 n1 n2 hT hk => ?_
        obtain rfl : u1 = x1 := Option.some.inj (g1.symm.trans y1)
        obtain rfl : u2 = x2 := Option.some.inj (g2.symm.trans y2)
        refine ⟨_, rfl, go_zip (s := { s with heap := hA, toks := tk }) z2 fun hB z3 sb => ?_⟩
        replace sb : Heap.SameBut z hA hB := sb
        have hT2 : hB.get? s.heap.objs.size = some { cls := .type "tuple", data := .seq #[u1, u2] } := (sb.2 _ (Nat.ne_of_gt hzl)).trans hT
        have new : ObjOk X.prog X.w (upd H s.heap.objs.size (.tup [v1, v2])) hB s.heap.objs.size (.tup [v1, v2]) := ⟨by show 2 ≤ sizeLine; decide, [u1, u2], (.cons ru1 (.cons ru2 .nil)), ⟨_, hT2, rfl, _, rfl⟩⟩
        have I1 : Inv X pins σ (upd H s.heap.objs.size (.tup [v1, v2])) { s with heap := hB, toks := tk } := I.turnedNew (t' := tk) (ch := [z, TI, TO, i1, i2]) (fun c o hb q => (sb.2 c (fun q => hb (by simp [q]))).trans (hk c o (fun q => hb (by simp [q])) (fun q => hb (by simp [q])) (fun q => hb (by simp [q])) (fun q => hb (by simp [q])) q)) hf (Nat.le_refl _) new
        refine ⟨.ref s.heap.objs.size, _, I1, rfl, ⟨_, _, rfl, I.hok.fresh (Nat.le_refl _), rfl, (.cons (fun l hl => by rw [sq_inj I hl hq1]; exact hx1) (.cons (fun l hl => by rw [sq_inj I hl hq2]; exact hx2) .nil))⟩, ⟨z3, (sb.2 _ S.zTI.symm).trans (hk _ _ S.zTI.symm S.TOTI.symm S.I1 S.I2 hTI), ⟨u1, u2, (sb.2 _ S.zTO.symm).trans TO2⟩, (n1.1.at fun o q => (sb.2 _ (fun q => S.z1 (by rw [← q]; exact S.m1))).trans q), (n2.1.at fun o q => (sb.2 _ (fun q => S.z2 (by rw [← q]; exact S.m2))).trans q)⟩, fun c hcm => ?_⟩
        have hlt : c < s.heap.objs.size := by
          have e : c = z ∨ c = TI ∨ c = TO ∨ c = i1 ∨ c = i2 := by simpa using hcm
          rcases e with q | q | q | q | q
          · rw [q]; exact hzl
          · rw [q]; exact Heap.lt_size hTI
          · rw [q]; exact Heap.lt_size hTO
          · rw [q]; obtain ⟨_, e1, _⟩ := h1.obj; exact Heap.lt_size e1
          · rw [q]; obtain ⟨_, e1, _⟩ := h2.obj; exact Heap.lt_size e1
        rw [upd_ne (Nat.ne_of_lt hlt)]
        exact (hf c hcm).1
  done := by
    intro X hP hw hK hc i pins s σ H E I hf st hg
    subst hP hw hK
    obtain ⟨hz, hTI, ⟨a1, a2, hTO⟩, h1, h2⟩ := st
    obtain ⟨xs1, hq1, hx1⟩ := hg p1 (by simp)
    obtain ⟨its1, rv1, q1, _⟩ := sq_seq I hq1
    have l1 : its1.toArray.size = i := by have := rv1.length; simp; omega
    have D1 := draws_of (prog := X.prog) (w := X.w) (A := X.A.in1) (I.ok.hd hc) i1 p1 ne1 its1
    rw [l1] at D1
    obtain ⟨xs2, hq2, hx2⟩ := hg p2 (by simp)
    obtain ⟨its2, rv2, q2, _⟩ := sq_seq I hq2
    have l2 : its2.toArray.size = i := by have := rv2.length; simp; omega
    have D2 := draws_of (prog := X.prog) (w := X.w) (A := X.A.in1) (I.ok.hd hc) i2 p2 ne2 its2
    rw [l2] at D2
    exact py_end2 (I.ok.hd hc) S D1 D2 hz hTI hTO ⟨h1, q1⟩ ⟨h2, q2⟩ fun h2 hk => ⟨rfl, I.turnedL (t' := s.toks) (ch := [z, TI, TO, i1, i2]) (fun c o hb q => hk c o (fun q => hb (by simp [q])) (fun q => hb (by simp [q])) (fun q => hb (by simp [q])) (fun q => hb (by simp [q])) q) hf⟩
  self := fun A i s Q E st h => iter_zip st.1 h
theorem sep_new2 {M : Nat} {p1 p2 : Bool × Addr} (h1 : p1.2 < M) (h2 : p2.2 < M) : Sep2 (M + 4) (M + 2) (M + 3) M (M + 1) [M, p1.2] [M + 1, p2.2] where
  zTO := by show (M + 4 : Nat) ≠ M + 3; omega
  zTI := by show (M + 4 : Nat) ≠ M + 2; omega
  TOTI := by show (M + 3 : Nat) ≠ M + 2; omega
  m1 := by simp
  z1 := nin_new (a := p1.2) 4 0 h1 (by decide)
  T1 := nin_new (a := p1.2) 3 0 h1 (by decide)
  I1 := by show (M + 2 : Nat) ≠ M; omega
  s2_1 := nin_new (a := p1.2) 1 0 h1 (by decide)
  m2 := by simp
  z2 := nin_new (a := p2.2) 4 1 h2 (by decide)
  T2 := nin_new (a := p2.2) 3 1 h2 (by decide)
  I2 := by show (M + 2 : Nat) ≠ M + 1; omega
  s1_2 := nin_new (a := p2.2) 0 1 h2 (by decide)
theorem pi_z2s {X : Cx} {e1 e2 : Expr} {ta : TA} {p pos tpos : Pos} {elts : List Expr} {kk : Nat} {jj : Nat} {kp kp2 : Pos} {fl : List Bool} (hfl : fl.length = 2) (hg : Gl X "zip") (hm : X.mg "zip" = none) (ha : PA X [e1, e2] ta)
    (hs : starEach [e1, e2] X.env = (false, eval e1 X.env) :: starEach [e2] X.env := by rfl) (hpl : (backTo pos (starEach [e2] X.env)).any (·.1) = false := by rfl) :
    PI X (.Tuple elts kk tpos) (.Call (.Name "zip" p) [e1, e2] [⟨some "strict", .Constant (.bool true) jj kp, kp2⟩] pos) (iZ X.K fl ta) := by
  refine ⟨fun pins s σ H R I h => ?_⟩
  refine wpAny_Call_Name_kw (ld_blt I hg hm PyProof.Rows.boot_zip ?_)
  refine PySem.W.callWith_of (P := fun _ => True) ?_ (fun h _ => looks_ty "zip" True.intro) ?_
  · show ((backTo pos (starEach _ X.env)).any (·.1) || false) = false
    rw [hs, Bool.or_false]
    exact hpl
  have he : backTo pos (starEach [e1, e2] X.env) = (false, eval e1 X.env) :: backTo pos (starEach [e2] X.env) := by rw [hs]; rfl
  rw [he]
  refine PyProof.Rows.evalArgs_kwB rfl ?_
  rw [← he]
  refine thn (ha.run pos pins s σ H _ I h) fun us s0 ⟨vs, H1, I0, r1, q1⟩ => ?_
  refine PyProof.Rows.kws_cons (Constant_bool (PyProof.Rows.kws_nil ⟨True.intro, ?_⟩))
  have I1 := I0
  obtain ⟨l, ev, el, hl, q1⟩ := q1
  subst ev
  obtain ⟨b1, b2, rfl⟩ : ∃ b1 b2 : Bool, fl = [b1, b2] := match fl, hfl with | [_, _], _ => ⟨_, _, rfl⟩
  obtain ⟨c1, c2, rfl⟩ : ∃ c1 c2 : Addr, l = [c1, c2] := match l, el with | [_, _], _ => ⟨_, _, rfl⟩
  cases r1 with
  | cons r_1 rr1 =>
    cases r_1
    cases rr1 with
    | cons r_2 rr2 =>
      cases r_2
      cases rr2
      obtain ⟨xs1, hq1⟩ := hl (b1, c1) (by simp)
      obtain ⟨its1, rv1, g1, lt1⟩ := sq_seq I1 hq1
      obtain ⟨xs2, hq2⟩ := hl (b2, c2) (by simp)
      obtain ⟨its2, rv2, g2, lt2⟩ := sq_seq I1 hq2
      have frs : ∀ c, c ∈ [s0.heap.objs.size + 4, s0.heap.objs.size + 2, s0.heap.objs.size + 3, s0.heap.objs.size, s0.heap.objs.size + 1] → FpOk X pins H1 c := fun c hcm => by
        have e : c = s0.heap.objs.size + 4 ∨ c = s0.heap.objs.size + 2 ∨ c = s0.heap.objs.size + 3 ∨ c = s0.heap.objs.size ∨ c = s0.heap.objs.size + 1 := by simpa using hcm
        have hle : s0.heap.objs.size ≤ c := by
          rcases e with q | q | q | q | q
          · rw [q]; exact Nat.le_add_right _ _
          · rw [q]; exact Nat.le_add_right _ _
          · rw [q]; exact Nat.le_add_right _ _
          · rw [q]; exact Nat.le_refl _
          · rw [q]; exact Nat.le_add_right _ _
        exact I1.fpOk hle (I1.hok.fresh hle)
      refine begins_strict2 (begins_of (b1, c1) its1) (begins_of (b2, c2) its2) g1 g2 fun hA hz hTI hTO y1 y2 kk => iter_zip hz ?_
      have I2 : Inv X pins σ H1 { s0 with heap := hA } := I1.kept (t' := s0.toks) kk
      exact ⟨_, [s0.heap.objs.size + 4, s0.heap.objs.size + 2, s0.heap.objs.size + 3, s0.heap.objs.size, s0.heap.objs.size + 1], _, _, H1, rfl, I2, turn_z2 (sep_new2 lt1 lt2) (Nat.ne_of_lt lt1) (Nat.ne_of_lt (Nat.lt_of_lt_of_le lt2 (Nat.le_add_right _ 1))), ⟨hz, hTI, ⟨_, _, hTO⟩, SqIt.begin y1, SqIt.begin y2⟩, frs, q1⟩
theorem pi_z2 {X : Cx} {e1 e2 : Expr} {ta : TA} {p pos tpos : Pos} {elts : List Expr} {kk : Nat} {fl : List Bool} (hfl : fl.length = 2) (hg : Gl X "zip") (hm : X.mg "zip" = none) (ha : PA X [e1, e2] ta)
    (hs : starEach [e1, e2] X.env = (false, eval e1 X.env) :: starEach [e2] X.env := by rfl) (hpl : (backTo pos (starEach [e2] X.env)).any (·.1) = false := by rfl) :
    PI X (.Tuple elts kk tpos) (.Call (.Name "zip" p) [e1, e2] [] pos) (iZ X.K fl ta) := by
  refine ⟨fun pins s σ H R I h => ?_⟩
  refine Call_ (ld_blt I hg hm PyProof.Rows.boot_zip (PyProof.Rows.callWith_type1 (thn (ha.run pos pins s σ H _ I h) fun us s0 ⟨vs, H1, I1, r1, q1⟩ => ?_) hs hpl))
  obtain ⟨l, ev, el, hl, q1⟩ := q1
  subst ev
  obtain ⟨b1, b2, rfl⟩ : ∃ b1 b2 : Bool, fl = [b1, b2] := match fl, hfl with | [_, _], _ => ⟨_, _, rfl⟩
  obtain ⟨c1, c2, rfl⟩ : ∃ c1 c2 : Addr, l = [c1, c2] := match l, el with | [_, _], _ => ⟨_, _, rfl⟩
  cases r1 with
  | cons r_1 rr1 =>
    cases r_1
    cases rr1 with
    | cons r_2 rr2 =>
      cases r_2
      cases rr2
      obtain ⟨xs1, hq1⟩ := hl (b1, c1) (by simp)
      obtain ⟨its1, rv1, g1, lt1⟩ := sq_seq I1 hq1
      obtain ⟨xs2, hq2⟩ := hl (b2, c2) (by simp)
      obtain ⟨its2, rv2, g2, lt2⟩ := sq_seq I1 hq2
      have frs : ∀ c, c ∈ [s0.heap.objs.size + 4, s0.heap.objs.size + 2, s0.heap.objs.size + 3, s0.heap.objs.size, s0.heap.objs.size + 1] → FpOk X pins H1 c := fun c hcm => by
        have e : c = s0.heap.objs.size + 4 ∨ c = s0.heap.objs.size + 2 ∨ c = s0.heap.objs.size + 3 ∨ c = s0.heap.objs.size ∨ c = s0.heap.objs.size + 1 := by simpa using hcm
        have hle : s0.heap.objs.size ≤ c := by
          rcases e with q | q | q | q | q
          · rw [q]; exact Nat.le_add_right _ _
          · rw [q]; exact Nat.le_add_right _ _
          · rw [q]; exact Nat.le_add_right _ _
          · rw [q]; exact Nat.le_refl _
          · rw [q]; exact Nat.le_add_right _ _
        exact I1.fpOk hle (I1.hok.fresh hle)
      refine zip_begins2 (begins_of (b1, c1) its1) (begins_of (b2, c2) its2) g1 g2 fun hA hz hTI hTO y1 y2 _ kk => iter_zip (b := false) hz ?_
      have I2 : Inv X pins σ H1 { s0 with heap := hA } := I1.kept (t' := s0.toks) kk
      exact ⟨_, [s0.heap.objs.size + 4, s0.heap.objs.size + 2, s0.heap.objs.size + 3, s0.heap.objs.size, s0.heap.objs.size + 1], _, _, H1, rfl, I2, turn_z2 (sep_new2 lt1 lt2) (Nat.ne_of_lt lt1) (Nat.ne_of_lt (Nat.lt_of_lt_of_le lt2 (Nat.le_add_right _ 1))), ⟨hz, hTI, ⟨_, _, hTO⟩, SqIt.begin y1, SqIt.begin y2⟩, frs, q1⟩
theorem turn_z3 {P : Program} {w : World} {K : PySem.W.Frag} {elts : List Expr} {kk : Nat} {tpos : Pos} {z TI TO i1 i2 i3 : Addr} {p1 p2 p3 : Bool × Addr} {b : Bool} (S : Sep3 z TI TO i1 i2 i3 [i1, p1.2] [i2, p2.2] [i3, p3.2]) (ne1 : p1.2 ≠ i1) (ne2 : p2.2 ≠ i2) (ne3 : p3.2 ≠ i3) :
    Turn P w K (.Tuple elts kk tpos) (ItZ K [p1, p2, p3]) [z, TI, TO, i1, i2, i3] z (fun i h => ZipO h z TI TO .none b ∧ TupO h TI #[.ref i1, .ref i2, .ref i3] ∧ (∃ a1 a2 a3, TupO h TO #[a1, a2, a3]) ∧ SqIt h i1 p1 i ∧ SqIt h i2 p2 i ∧ SqIt h i3 p3 i) where
  mem := by simp
  obj := fun i h st c hc => by
    obtain ⟨hz, hTI, ⟨a1, a2, a3, hTO⟩, h1, h2, h3⟩ := st
    have e : c = z ∨ c = TI ∨ c = TO ∨ c = i1 ∨ c = i2 ∨ c = i3 := by simpa using hc
    rcases e with q | q | q | q | q | q
    · rw [q]; exact ⟨_, hz, fun v q => nomatch q⟩
    · rw [q]; exact ⟨_, hTI, fun v q => nomatch q⟩
    · rw [q]; exact ⟨_, hTO, fun v q => nomatch q⟩
    · rw [q]; exact h1.obj
    · rw [q]; exact h2.obj
    · rw [q]; exact h3.obj
  keep := fun i h h2 st k => by
    obtain ⟨hz, hTI, ⟨a1, a2, a3, hTO⟩, h1, h2, h3⟩ := st
    exact ⟨k z (by simp) _ hz, k TI (by simp) _ hTI, ⟨a1, a2, a3, k TO (by simp) _ hTO⟩, h1.at fun o q => k i1 (by simp) o q, h2.at fun o q => k i2 (by simp) o q, h3.at fun o q => k i3 (by simp) o q⟩
  item := by
    intro X hP hw hK hc i pins s σ H E I hf st hg
    subst hP hw hK
    obtain ⟨hz, hTI, ⟨a1, a2, a3, hTO⟩, h1, h2, h3⟩ := st
    obtain ⟨vs, hv⟩ := hg
    cases hv with
    | cons r1 hv1 =>
      rename_i v1 ws1
      obtain ⟨xs1, hq1, hx1⟩ := r1
      obtain ⟨its1, rv1, q1, _⟩ := sq_seq I hq1
      obtain ⟨u1, hu1, ru1⟩ := rv1.get hx1
      have g1 : its1.toArray[i]? = some u1 := by simpa using hu1
      have l1 : i < its1.toArray.size := by have := (List.getElem?_eq_some_iff.mp hu1).1; simpa using this
      cases hv1 with
      | cons r2 hv2 =>
        rename_i v2 ws2
        obtain ⟨xs2, hq2, hx2⟩ := r2
        obtain ⟨its2, rv2, q2, _⟩ := sq_seq I hq2
        obtain ⟨u2, hu2, ru2⟩ := rv2.get hx2
        have g2 : its2.toArray[i]? = some u2 := by simpa using hu2
        have l2 : i < its2.toArray.size := by have := (List.getElem?_eq_some_iff.mp hu2).1; simpa using this
        cases hv2 with
        | cons r3 hv3 =>
          rename_i v3 ws3
          obtain ⟨xs3, hq3, hx3⟩ := r3
          obtain ⟨its3, rv3, q3, _⟩ := sq_seq I hq3
          obtain ⟨u3, hu3, ru3⟩ := rv3.get hx3
          have g3 : its3.toArray[i]? = some u3 := by simpa using hu3
          have l3 : i < its3.toArray.size := by have := (List.getElem?_eq_some_iff.mp hu3).1; simpa using this
          cases hv3
          have hzl : z < s.heap.objs.size := Heap.lt_size hz
          refine py_item3 S (draws_of (A := X.A.in1) (I.ok.hd hc) i1 p1 ne1 its1) (draws_of (A := X.A.in1) (I.ok.hd hc) i2 p2 ne2 its2) (draws_of (A := X.A.in1) (I.ok.hd hc) i3 p3 ne3 its3) hz hTI hTO ⟨h1, q1⟩ ⟨h2, q2⟩ ⟨h3, q3⟩ l1 l2 l3 fun x1 x2 x3 hA tk y1 y2 y3 z2 TO2 n1 n2 n3 hT hk => ?_
          obtain rfl : u1 = x1 := Option.some.inj (g1.symm.trans y1)
          obtain rfl : u2 = x2 := Option.some.inj (g2.symm.trans y2)
          obtain rfl : u3 = x3 := Option.some.inj (g3.symm.trans y3)
          refine ⟨_, rfl, go_zip (s := { s with heap := hA, toks := tk }) z2 fun hB z3 sb => ?_⟩
          replace sb : Heap.SameBut z hA hB := sb
          have hT2 : hB.get? s.heap.objs.size = some { cls := .type "tuple", data := .seq #[u1, u2, u3] } := (sb.2 _ (Nat.ne_of_gt hzl)).trans hT
          have new : ObjOk X.prog X.w (upd H s.heap.objs.size (.tup [v1, v2, v3])) hB s.heap.objs.size (.tup [v1, v2, v3]) := ⟨by show 3 ≤ sizeLine; decide, [u1, u2, u3], (.cons ru1 (.cons ru2 (.cons ru3 .nil))), ⟨_, hT2, rfl, _, rfl⟩⟩
          have I1 : Inv X pins σ (upd H s.heap.objs.size (.tup [v1, v2, v3])) { s with heap := hB, toks := tk } := I.turnedNew (t' := tk) (ch := [z, TI, TO, i1, i2, i3]) (fun c o hb q => (sb.2 c (fun q => hb (by simp [q]))).trans (hk c o (fun q => hb (by simp [q])) (fun q => hb (by simp [q])) (fun q => hb (by simp [q])) (fun q => hb (by simp [q])) (fun q => hb (by simp [q])) q)) hf (Nat.le_refl _) new
          refine ⟨.ref s.heap.objs.size, _, I1, rfl, ⟨_, _, rfl, I.hok.fresh (Nat.le_refl _), rfl, (.cons (fun l hl => by rw [sq_inj I hl hq1]; exact hx1) (.cons (fun l hl => by rw [sq_inj I hl hq2]; exact hx2) (.cons (fun l hl => by rw [sq_inj I hl hq3]; exact hx3) .nil)))⟩, ⟨z3, (sb.2 _ S.zTI.symm).trans (hk _ _ S.zTI.symm S.TOTI.symm S.I1 S.I2 S.I3 hTI), ⟨u1, u2, u3, (sb.2 _ S.zTO.symm).trans TO2⟩, (n1.1.at fun o q => (sb.2 _ (fun q => S.z1 (by rw [← q]; exact S.m1))).trans q), (n2.1.at fun o q => (sb.2 _ (fun q => S.z2 (by rw [← q]; exact S.m2))).trans q), (n3.1.at fun o q => (sb.2 _ (fun q => S.z3 (by rw [← q]; exact S.m3))).trans q)⟩, fun c hcm => ?_⟩
          have hlt : c < s.heap.objs.size := by
            have e : c = z ∨ c = TI ∨ c = TO ∨ c = i1 ∨ c = i2 ∨ c = i3 := by simpa using hcm
            rcases e with q | q | q | q | q | q
            · rw [q]; exact hzl
            · rw [q]; exact Heap.lt_size hTI
            · rw [q]; exact Heap.lt_size hTO
            · rw [q]; obtain ⟨_, e1, _⟩ := h1.obj; exact Heap.lt_size e1
            · rw [q]; obtain ⟨_, e1, _⟩ := h2.obj; exact Heap.lt_size e1
            · rw [q]; obtain ⟨_, e1, _⟩ := h3.obj; exact Heap.lt_size e1
          rw [upd_ne (Nat.ne_of_lt hlt)]
          exact (hf c hcm).1
  done := by
    intro X hP hw hK hc i pins s σ H E I hf st hg
    subst hP hw hK
    obtain ⟨hz, hTI, ⟨a1, a2, a3, hTO⟩, h1, h2, h3⟩ := st
    obtain ⟨xs1, hq1, hx1⟩ := hg p1 (by simp)
    obtain ⟨its1, rv1, q1, _⟩ := sq_seq I hq1
    have l1 : its1.toArray.size = i := by have := rv1.length; simp; omega
    have D1 := draws_of (prog := X.prog) (w := X.w) (A := X.A.in1) (I.ok.hd hc) i1 p1 ne1 its1
    rw [l1] at D1
    obtain ⟨xs2, hq2, hx2⟩ := hg p2 (by simp)
    obtain ⟨its2, rv2, q2, _⟩ := sq_seq I hq2
    have l2 : its2.toArray.size = i := by have := rv2.length; simp; omega
    have D2 := draws_of (prog := X.prog) (w := X.w) (A := X.A.in1) (I.ok.hd hc) i2 p2 ne2 its2
    rw [l2] at D2
    obtain ⟨xs3, hq3, hx3⟩ := hg p3 (by simp)
    obtain ⟨its3, rv3, q3, _⟩ := sq_seq I hq3
    have l3 : its3.toArray.size = i := by have := rv3.length; simp; omega
    have D3 := draws_of (prog := X.prog) (w := X.w) (A := X.A.in1) (I.ok.hd hc) i3 p3 ne3 its3
    rw [l3] at D3
    exact py_end3 (I.ok.hd hc) S D1 D2 D3 hz hTI hTO ⟨h1, q1⟩ ⟨h2, q2⟩ ⟨h3, q3⟩ fun h2 hk => ⟨rfl, I.turnedL (t' := s.toks) (ch := [z, TI, TO, i1, i2, i3]) (fun c o hb q => hk c o (fun q => hb (by simp [q])) (fun q => hb (by simp [q])) (fun q => hb (by simp [q])) (fun q => hb (by simp [q])) (fun q => hb (by simp [q])) q) hf⟩
  self := fun A i s Q E st h => iter_zip st.1 h
theorem sep_new3 {M : Nat} {p1 p2 p3 : Bool × Addr} (h1 : p1.2 < M) (h2 : p2.2 < M) (h3 : p3.2 < M) : Sep3 (M + 5) (M + 3) (M + 4) M (M + 1) (M + 2) [M, p1.2] [M + 1, p2.2] [M + 2, p3.2] where
  zTO := by show (M + 5 : Nat) ≠ M + 4; omega
  zTI := by show (M + 5 : Nat) ≠ M + 3; omega
  TOTI := by show (M + 4 : Nat) ≠ M + 3; omega
  m1 := by simp
  z1 := nin_new (a := p1.2) 5 0 h1 (by decide)
  T1 := nin_new (a := p1.2) 4 0 h1 (by decide)
  I1 := by show (M + 3 : Nat) ≠ M; omega
  s2_1 := nin_new (a := p1.2) 1 0 h1 (by decide)
  s3_1 := nin_new (a := p1.2) 2 0 h1 (by decide)
  m2 := by simp
  z2 := nin_new (a := p2.2) 5 1 h2 (by decide)
  T2 := nin_new (a := p2.2) 4 1 h2 (by decide)
  I2 := by show (M + 3 : Nat) ≠ M + 1; omega
  s1_2 := nin_new (a := p2.2) 0 1 h2 (by decide)
  s3_2 := nin_new (a := p2.2) 2 1 h2 (by decide)
  m3 := by simp
  z3 := nin_new (a := p3.2) 5 2 h3 (by decide)
  T3 := nin_new (a := p3.2) 4 2 h3 (by decide)
  I3 := by show (M + 3 : Nat) ≠ M + 2; omega
  s1_3 := nin_new (a := p3.2) 0 2 h3 (by decide)
  s2_3 := nin_new (a := p3.2) 1 2 h3 (by decide)
theorem pi_z3s {X : Cx} {e1 e2 e3 : Expr} {ta : TA} {p pos tpos : Pos} {elts : List Expr} {kk : Nat} {jj : Nat} {kp kp2 : Pos} {fl : List Bool} (hfl : fl.length = 3) (hg : Gl X "zip") (hm : X.mg "zip" = none) (ha : PA X [e1, e2, e3] ta)
    (hs : starEach [e1, e2, e3] X.env = (false, eval e1 X.env) :: starEach [e2, e3] X.env := by rfl) (hpl : (backTo pos (starEach [e2, e3] X.env)).any (·.1) = false := by rfl) :
    PI X (.Tuple elts kk tpos) (.Call (.Name "zip" p) [e1, e2, e3] [⟨some "strict", .Constant (.bool true) jj kp, kp2⟩] pos) (iZ X.K fl ta) := by
  refine ⟨fun pins s σ H R I h => ?_⟩
  refine wpAny_Call_Name_kw (ld_blt I hg hm PyProof.Rows.boot_zip ?_)
  refine PySem.W.callWith_of (P := fun _ => True) ?_ (fun h _ => looks_ty "zip" True.intro) ?_
  · show ((backTo pos (starEach _ X.env)).any (·.1) || false) = false
    rw [hs, Bool.or_false]
    exact hpl
  have he : backTo pos (starEach [e1, e2, e3] X.env) = (false, eval e1 X.env) :: backTo pos (starEach [e2, e3] X.env) := by rw [hs]; rfl
  rw [he]
  refine PyProof.Rows.evalArgs_kwB rfl ?_
  rw [← he]
  refine thn (ha.run pos pins s σ H _ I h) fun us s0 ⟨vs, H1, I0, r1, q1⟩ => ?_
  refine PyProof.Rows.kws_cons (Constant_bool (PyProof.Rows.kws_nil ⟨True.intro, ?_⟩))
  have I1 := I0
  obtain ⟨l, ev, el, hl, q1⟩ := q1
  subst ev
  obtain ⟨b1, b2, b3, rfl⟩ : ∃ b1 b2 b3 : Bool, fl = [b1, b2, b3] := match fl, hfl with | [_, _, _], _ => ⟨_, _, _, rfl⟩
  obtain ⟨c1, c2, c3, rfl⟩ : ∃ c1 c2 c3 : Addr, l = [c1, c2, c3] := match l, el with | [_, _, _], _ => ⟨_, _, _, rfl⟩
  cases r1 with
  | cons r_1 rr1 =>
    cases r_1
    cases rr1 with
    | cons r_2 rr2 =>
      cases r_2
      cases rr2 with
      | cons r_3 rr3 =>
        cases r_3
        cases rr3
        obtain ⟨xs1, hq1⟩ := hl (b1, c1) (by simp)
        obtain ⟨its1, rv1, g1, lt1⟩ := sq_seq I1 hq1
        obtain ⟨xs2, hq2⟩ := hl (b2, c2) (by simp)
        obtain ⟨its2, rv2, g2, lt2⟩ := sq_seq I1 hq2
        obtain ⟨xs3, hq3⟩ := hl (b3, c3) (by simp)
        obtain ⟨its3, rv3, g3, lt3⟩ := sq_seq I1 hq3
        have frs : ∀ c, c ∈ [s0.heap.objs.size + 5, s0.heap.objs.size + 3, s0.heap.objs.size + 4, s0.heap.objs.size, s0.heap.objs.size + 1, s0.heap.objs.size + 2] → FpOk X pins H1 c := fun c hcm => by
          have e : c = s0.heap.objs.size + 5 ∨ c = s0.heap.objs.size + 3 ∨ c = s0.heap.objs.size + 4 ∨ c = s0.heap.objs.size ∨ c = s0.heap.objs.size + 1 ∨ c = s0.heap.objs.size + 2 := by simpa using hcm
          have hle : s0.heap.objs.size ≤ c := by
            rcases e with q | q | q | q | q | q
            · rw [q]; exact Nat.le_add_right _ _
            · rw [q]; exact Nat.le_add_right _ _
            · rw [q]; exact Nat.le_add_right _ _
            · rw [q]; exact Nat.le_refl _
            · rw [q]; exact Nat.le_add_right _ _
            · rw [q]; exact Nat.le_add_right _ _
          exact I1.fpOk hle (I1.hok.fresh hle)
        refine begins_strict3 (begins_of (b1, c1) its1) (begins_of (b2, c2) its2) (begins_of (b3, c3) its3) g1 g2 g3 fun hA hz hTI hTO y1 y2 y3 kk => iter_zip hz ?_
        have I2 : Inv X pins σ H1 { s0 with heap := hA } := I1.kept (t' := s0.toks) kk
        exact ⟨_, [s0.heap.objs.size + 5, s0.heap.objs.size + 3, s0.heap.objs.size + 4, s0.heap.objs.size, s0.heap.objs.size + 1, s0.heap.objs.size + 2], _, _, H1, rfl, I2, turn_z3 (sep_new3 lt1 lt2 lt3) (Nat.ne_of_lt lt1) (Nat.ne_of_lt (Nat.lt_of_lt_of_le lt2 (Nat.le_add_right _ 1))) (Nat.ne_of_lt (Nat.lt_of_lt_of_le lt3 (Nat.le_add_right _ 2))), ⟨hz, hTI, ⟨_, _, _, hTO⟩, SqIt.begin y1, SqIt.begin y2, SqIt.begin y3⟩, frs, q1⟩
theorem pi_z3 {X : Cx} {e1 e2 e3 : Expr} {ta : TA} {p pos tpos : Pos} {elts : List Expr} {kk : Nat} {fl : List Bool} (hfl : fl.length = 3) (hg : Gl X "zip") (hm : X.mg "zip" = none) (ha : PA X [e1, e2, e3] ta)
    (hs : starEach [e1, e2, e3] X.env = (false, eval e1 X.env) :: starEach [e2, e3] X.env := by rfl) (hpl : (backTo pos (starEach [e2, e3] X.env)).any (·.1) = false := by rfl) :
    PI X (.Tuple elts kk tpos) (.Call (.Name "zip" p) [e1, e2, e3] [] pos) (iZ X.K fl ta) := by
  refine ⟨fun pins s σ H R I h => ?_⟩
  refine Call_ (ld_blt I hg hm PyProof.Rows.boot_zip (PyProof.Rows.callWith_type1 (thn (ha.run pos pins s σ H _ I h) fun us s0 ⟨vs, H1, I1, r1, q1⟩ => ?_) hs hpl))
  obtain ⟨l, ev, el, hl, q1⟩ := q1
  subst ev
  obtain ⟨b1, b2, b3, rfl⟩ : ∃ b1 b2 b3 : Bool, fl = [b1, b2, b3] := match fl, hfl with | [_, _, _], _ => ⟨_, _, _, rfl⟩
  obtain ⟨c1, c2, c3, rfl⟩ : ∃ c1 c2 c3 : Addr, l = [c1, c2, c3] := match l, el with | [_, _, _], _ => ⟨_, _, _, rfl⟩
  cases r1 with
  | cons r_1 rr1 =>
    cases r_1
    cases rr1 with
    | cons r_2 rr2 =>
      cases r_2
      cases rr2 with
      | cons r_3 rr3 =>
        cases r_3
        cases rr3
        obtain ⟨xs1, hq1⟩ := hl (b1, c1) (by simp)
        obtain ⟨its1, rv1, g1, lt1⟩ := sq_seq I1 hq1
        obtain ⟨xs2, hq2⟩ := hl (b2, c2) (by simp)
        obtain ⟨its2, rv2, g2, lt2⟩ := sq_seq I1 hq2
        obtain ⟨xs3, hq3⟩ := hl (b3, c3) (by simp)
        obtain ⟨its3, rv3, g3, lt3⟩ := sq_seq I1 hq3
        have frs : ∀ c, c ∈ [s0.heap.objs.size + 5, s0.heap.objs.size + 3, s0.heap.objs.size + 4, s0.heap.objs.size, s0.heap.objs.size + 1, s0.heap.objs.size + 2] → FpOk X pins H1 c := fun c hcm => by
          have e : c = s0.heap.objs.size + 5 ∨ c = s0.heap.objs.size + 3 ∨ c = s0.heap.objs.size + 4 ∨ c = s0.heap.objs.size ∨ c = s0.heap.objs.size + 1 ∨ c = s0.heap.objs.size + 2 := by simpa using hcm
          have hle : s0.heap.objs.size ≤ c := by
            rcases e with q | q | q | q | q | q
            · rw [q]; exact Nat.le_add_right _ _
            · rw [q]; exact Nat.le_add_right _ _
            · rw [q]; exact Nat.le_add_right _ _
            · rw [q]; exact Nat.le_refl _
            · rw [q]; exact Nat.le_add_right _ _
            · rw [q]; exact Nat.le_add_right _ _
          exact I1.fpOk hle (I1.hok.fresh hle)
        refine zip_begins3 (begins_of (b1, c1) its1) (begins_of (b2, c2) its2) (begins_of (b3, c3) its3) g1 g2 g3 fun hA hz hTI hTO y1 y2 y3 _ kk => iter_zip (b := false) hz ?_
        have I2 : Inv X pins σ H1 { s0 with heap := hA } := I1.kept (t' := s0.toks) kk
        exact ⟨_, [s0.heap.objs.size + 5, s0.heap.objs.size + 3, s0.heap.objs.size + 4, s0.heap.objs.size, s0.heap.objs.size + 1, s0.heap.objs.size + 2], _, _, H1, rfl, I2, turn_z3 (sep_new3 lt1 lt2 lt3) (Nat.ne_of_lt lt1) (Nat.ne_of_lt (Nat.lt_of_lt_of_le lt2 (Nat.le_add_right _ 1))) (Nat.ne_of_lt (Nat.lt_of_lt_of_le lt3 (Nat.le_add_right _ 2))), ⟨hz, hTI, ⟨_, _, _, hTO⟩, SqIt.begin y1, SqIt.begin y2, SqIt.begin y3⟩, frs, q1⟩
end CZ

namespace CS
open PySem PySem.Spec PyProof.Rows L2
/-! ### rules beside the layer's -/
section
variable {X : Cx}
/-- a product, whatever the reason that it fits -/
theorem op_mulI : OpR X (binaryOp .Mult) (rI IntMulOk fun i j => .int (i * j)) := opI fun _ _ _ _ _ _ _ hc q => mul_int q hc
/-- list + list, however each is known -/
def rCatR (K : PySem.W.Frag) : R2 := fun x y H Q => ∃ l b xs zs, x = .ref l ∧ y = .ref b ∧ SqL K H l xs ∧ SqL K H b zs ∧ xs.length + zs.length ≤ sizeLine ∧ ∀ p, H p = none → Q (.ref p) (upd H p (.lst (xs ++ zs)))
theorem op_catR : OpR X (binaryOp .Add) (rCatR X.K) := by
  intro pins s σ H x y v u Q I rx ry h
  obtain ⟨l, b, xs, zs, rfl, rfl, hH, hB, hz, q⟩ := h
  cases rx
  cases ry
  obtain ⟨its, r, p1, _⟩ := I.list hH
  obtain ⟨its2, r2, p2, _⟩ := I.list hB
  obtain ⟨⟨cls, dd, data, sl⟩, ho, hc, n, hd⟩ := id p1.isList
  obtain ⟨⟨cls2, dd2, data2, sl2⟩, ho2, hc2, n2, hd2⟩ := id p2.isList
  simp only at hc hd hc2 hd2
  subst hc hd hc2 hd2
  have l1 := r.length
  have l2 := r2.length
  have ea : its.toArray ++ its2.toArray = (its ++ its2).toArray := by simp
  refine concat_meets ⟨_, ho, rfl⟩ ⟨_, ho2, rfl⟩ noFill_list_add seq_list_add PySem.F.slot_list_add PySem.F.entry_list_add (PySem.F.args_list_add_2 _ _) (list_addW l b its.toArray its2.toArray n n2 dd dd2 sl sl2 (by rw [List.size_toArray, List.size_toArray]; omega)) ⟨ho, ho2, ?_⟩
  rw [ea]
  exact ⟨.ref _, _, I.lnew (t' := s.toks) (r.append r2) (by rw [List.length_append]; omega), rfl, q _ I.fresh⟩
theorem pi_or {tg it : Expr} {w1 w2 : TI} (h1 : PI X tg it w1) (h2 : PI X tg it w2) : PI X tg it (fun σ H R => w1 σ H R ∨ w2 σ H R) :=
  ⟨fun pins s σ H R I h => h.elim (fun z => h1.run pins s σ H R I z) fun z => h2.run pins s σ H R I z⟩
end
/-! ### calls by keywords alone -/
def pick {α : Type} (js : List Nat) (l : List α) : List α := js.filterMap fun j => l[j]?
theorem vals_pick {xs : List V} {us : List Value} (r : Vals xs us) : ∀ js : List Nat, Vals (pick js xs) (pick js us)
  | [] => .nil
  | j :: js => by
    have ih := vals_pick r js
    unfold pick at ih ⊢
    cases e : xs[j]? with
    | none =>
      have e2 := r.none_of e
      rw [List.filterMap_cons_none (by rw [e]), List.filterMap_cons_none (by rw [e2])]
      exact ih
    | some x =>
      obtain ⟨u, e2, ru⟩ := r.get e
      rw [List.filterMap_cons_some (by rw [e]), List.filterMap_cons_some (by rw [e2])]
      exact .cons ru ih
theorem kbn_of {K : PySem.W.Frag} {x qual : Str} {st : Stmt} {f : Addr} {fd : FuncData} {ps : List Str} (F : Fun K x qual st f fd) (n : Nat) (ks : List Str) (js : List Nat)
    (h : ∀ (kV doc pm : Value) (an : Option Addr) (cdv ct : Value) (us ws : List Value), us.length = n → ws.length = ks.length → bindArgs (PySem.W.fnOf x qual (defArgs st) (defBody st) (defScope st) .none kV doc pm an cdv ct) ⟨us, ks.zip ws⟩ = pure (ps.zip (pick js (us ++ ws)))) :
    KBn K fd ps n ks (fun us ws => pick js (us ++ ws)) (fun vs zs => pick js (vs ++ zs)) := by
  obtain ⟨oc, od, kV, doc, pm, an, cdv, ct, osl, rfl, lk, hcd⟩ := F.ex
  exact ⟨fun s us ws _ h1 h2 => .of_eq (h kV doc pm an cdv ct us ws h1 h2), fun r1 r2 => vals_pick (r1.append r2) js⟩
section
variable {X : Cx} {CX : CXT} {k n : Nat} {f C : Addr} {fd : FuncData} {ps ks : List Str} {sp : Sp} {E : XK} {x m : Str} {p pos apos : Pos} {o : Expr} {kws : List Keyword} {ta : TE} {tk : TA} {g : List Value → List Value → List Value} {gV : List V → List V → List V}
theorem run_kw {pins : List (Addr × Obj)} {σ : L2.St} {H : Hp} {s : Shared} {Q : VK} {us ws : List Value} {vs zs : List V} (F : FnOk X.prog X.w X.K X.mg X.base CX k f fd ps sp) (hr : Room k X.A) (hb : KBn X.K fd ps n ks g gV) (hx : Passes CX X E)
    (I : Inv X pins σ H s) (r : Vals vs us) (rz : Vals zs ws) (l1 : vs.length = n) (l2 : zs.length = ks.length) (h : sp (gV vs zs) H Q E) : wpAny (model X.prog X.w) X.A (call (.ref f) us (ks.zip ws)) (EP X pins σ Q) X.xe s := by
  refine wpAny_call (codeAny_mono (F.run X.A X.stack s H ⟨us, ks.zip ws⟩ (g us ws) (gV vs zs) Q E hr I.env0 (hb.to s us ws I.kIn (r.length.symm.trans l1) (rz.length.symm.trans l2)) (hb.rel r rz) h) fun res s2 hq => ?_)
  cases res with
  | error e => exact hx pins σ H s e s2 I hq
  | ok fl =>
    cases fl with
    | ret u => exact I.after hq
    | next => exact False.elim hq
    | brk => exact False.elim hq
    | cont => exact False.elim hq
/-- f(k = v, ..) -/
def tCallKw (m : Nat) (sp : Sp) (gV : List V → List V → List V) (E : XK) (tk : TA) : TE := fun σ H Q => tk σ H fun zs H1 => zs.length = m ∧ sp (gV [] zs) H1 Q E
theorem pe_callKw (F : FnOk X.prog X.w X.K X.mg X.base CX k f fd ps sp) (hr : Room k X.A) (hg : Gl X x) (hm : X.mg x = some (.ref f)) (hk : PySem.W.keepIn X.K (.ref f) = true) (hb : KBn X.K fd ps 0 ks g gV) (hx : Passes CX X E) (hkw : PK X kws tk)
    (hall : (backToKw pos (keywordEach kws X.env)).all (·.1.isSome) = true := by rfl) (hks : (backToKw pos (keywordEach kws X.env)).filterMap (·.1) = ks := by rfl) (hdb : (x == ("__debug__" : Str)) = false := by decide)
    (hpl : ((backTo pos (starEach [] X.env)).any (·.1) || (backToKw pos (keywordEach kws X.env)).any (·.1.isNone)) = false := by rfl) :
    PE X (.Call (.Name x p) [] kws pos) (tCallKw ks.length sp gV E tk) := by
  refine ⟨fun pins s σ H Q I h => ?_⟩
  refine wpAny_Call_Name_kw (ld_glob I hg hm ?_ hdb)
  refine PySem.W.callWith_KW0 (h₀ := X.base) I.ok.mod.kin hk hall (thn (hkw.run pos pins s σ H _ I h) fun ws s2 ⟨zs, H2, I2, rz, l2, q2⟩ => ⟨I2.kIn, ?_⟩) hpl
  rw [hks]
  exact run_kw (us := []) (vs := []) F hr hb hx I2 .nil rz rfl l2 q2
/-- o.m(k = v, ..) -/
def tMethKw (C : Addr) (m : Str) (n : Nat) (sp : Sp) (gV : List V → List V → List V) (E : XK) (ta : TE) (tk : TA) : TE := fun σ H Q => ta σ H fun x H1 => ∃ a dx fs, x = .ref a ∧ H1 a = some (.ins C dx fs) ∧ fs.lookup m = none ∧
  tk σ H1 fun zs H2 => zs.length = n ∧ sp (gV [x] zs) H2 Q E
theorem pe_methKw {pl : Sem Bool} (he : PE X o ta) (c : Cls X.K C) (hm : Meth X.K C m f) (F : FnOk X.prog X.w X.K X.mg X.base CX k f fd ps sp) (hr : Room k X.A) (hb : KBn X.K fd ps 1 ks g gV) (hx : Passes CX X E) (hkw : PK X kws tk)
    (hall : (backToKw pos (keywordEach kws X.env)).all (·.1.isSome) = true := by rfl) (hks : (backToKw pos (keywordEach kws X.env)).filterMap (·.1) = ks := by rfl)
    (hpl : ((backTo pos (starEach [] X.env)).any (·.1) || (backToKw pos (keywordEach kws X.env)).any (·.1.isNone)) = false := by rfl)
    (ht : eval (.Call (.Attribute o m apos) [] kws pos) X.env = (do
      let ov ← eval o X.env
      standAt apos.atName
      let (f, first) ← holding [ov] (getMethod ov m pl)
      callWith pos f first (backTo pos (starEach [] X.env)) (backToKw pos (keywordEach kws X.env))) := by rfl) :
    PE X (.Call (.Attribute o m apos) [] kws pos) (tMethKw C m ks.length sp gV E ta tk) := by
  refine ⟨fun pins s σ H Q I h => ?_⟩
  refine PySem.W.methodCall_KW (pl := pl) (thn (he.run pins s σ H _ I h) fun u s1 ⟨x, H1, I1, rx, a, dx, fs, ex, ea, l, q⟩ => ?_) ht
  subst ex
  obtain rfl : u = Value.ref a := rx
  refine getmeth_ok I1 ea c hm l ?_
  refine PySem.W.callWith_KW0 (first := [.ref a]) (h₀ := X.base) I.ok.mod.kin hm.kp hall (thn (hkw.run pos pins s1 σ H1 _ I1 q) fun ws s2 ⟨zs, H2, I2, rz, l2, q2⟩ => ⟨I2.kIn, ?_⟩) hpl
  rw [hks]
  exact run_kw (us := [.ref a]) (vs := [.ref a]) F hr hb hx I2 (.cons rfl .nil) rz rfl l2 q2
end
/-! ### heaps that grow -/
abbrev Ex (H H2 : Hp) : Prop := Evl.Ex H H2
theorem exr {H : Hp} : Ex H H := fun _ _ h => h
theorem exn {H : Hp} {p : Addr} {o : HO} (h : H p = none) : Ex H (upd H p o) := Evl.Ex.new h
theorem SqK.mono {K : PySem.W.Frag} {H H2 : Hp} {p : Bool × Addr} {xs : List V} (e : Ex H H2) (h : CZ.SqK K H p xs) : CZ.SqK K H2 p xs := by
  obtain ⟨b, a⟩ := p
  cases b
  · exact Evl.ex_l e h
  · exact Evl.ex_t e h
/-- a comprehension whose element and tests leave all that stood: out i is what stands behind i turns -/
theorem lc_out {J : It} {n : Nat} {G : Hp → Prop} {Y : Nat → Hp → V → Hp → Prop} (w : Walk J n G Y) {g : TG} {tt : TT} {te : TE} {vs : List Nat} {σ : L2.St} {H1 : Hp} {D : Addr} {Qd : Hp → Prop} (out : Nat → List V) (h0 : out 0 = []) (hD : H1 D = none)
    (hlen : ∀ i, i < n → (out i).length < sizeLine) (hG : ∀ H, Ex H1 H → G H)
    (hs : ∀ i x H H2 (Nx : Hp → Prop), i < n → Ex H1 H → H D = some (.lst (out i)) → Y i H x H2 →
      (∀ y H5, Ex H H5 → out (i + 1) = out i ++ [y] → ∃ acc, H5 D = some (.lst acc) ∧ acc.length < sizeLine ∧ Nx (upd H5 D (.lst (acc ++ [y])))) → (∀ H4, Ex H H4 → out (i + 1) = out i → Nx H4) →
      g x (wipe σ vs) H2 fun σ2 H3 => wipe σ2 vs = wipe σ vs ∧ tt σ2 H3 fun b H4 => if b = true then te σ2 H4 fun y H5 => ∃ acc, H5 D = some (.lst acc) ∧ acc.length < sizeLine ∧ Nx (upd H5 D (.lst (acc ++ [y]))) else Nx H4)
    (hd : ∀ H, Ex H1 H → H D = some (.lst (out n)) → Qd H) :
    ∃ W : Nat → Nat → Hp → Prop, (∃ m, W 0 m (upd H1 D (.lst []))) ∧ ∀ i m H, W i m H →
      (J.stop i H ∧ Qd H) ∨ (J.go i H ∧ ∃ Nx : Hp → Prop, (∀ H2, Nx H2 → ∃ m2, m2 < m ∧ W (i + 1) m2 H2) ∧ ∀ x H2, J.yld i H x H2 → g x (wipe σ vs) H2 fun σ2 H3 => wipe σ2 vs = wipe σ vs ∧ tt σ2 H3 fun b H4 =>
        if b = true then te σ2 H4 fun y H5 => ∃ acc, H5 D = some (.lst acc) ∧ acc.length < sizeLine ∧ Nx (upd H5 D (.lst (acc ++ [y]))) else Nx H4) := by
  refine lc_it w (fun i H => Ex H1 H ∧ H D = some (.lst (out i))) ⟨exn hD, by rw [upd_same, h0]⟩ (fun i H _ p => hG H p.1) (fun i x H H2 hi p y => ?_) (fun H p => hd H p.1 p.2)
  refine hs i x H H2 _ hi p.1 p.2 y (fun y2 H5 e eo => ⟨out i, e D _ p.2, hlen i hi, fun b o q => ?_, by rw [upd_same, eo]⟩) (fun H4 e eo => ⟨fun b o q => e b o (p.1 b o q), by rw [eo]; exact e D _ p.2⟩)
  rw [upd_ne (ne_of_none q hD)]
  exact e b o (p.1 b o q)
/-- .. whose list is known: vals -/
theorem lc_vals {J : It} {n : Nat} {G : Hp → Prop} {Y : Nat → Hp → V → Hp → Prop} (w : Walk J n G Y) {g : TG} {te : TE} {vs : List Nat} {σ : L2.St} {H1 : Hp} {D : Addr} {Qd : Hp → Prop} (vals : List V) (hn : vals.length = n) (hl : n ≤ 10000000) (hD : H1 D = none)
    (hG : ∀ H, Ex H1 H → G H)
    (hs : ∀ i x H H2 (R : VK), i < n → Ex H1 H → Y i H x H2 → (∀ y H5, Ex H H5 → vals[i]? = some y → R y H5) → g x (wipe σ vs) H2 fun σ2 H3 => wipe σ2 vs = wipe σ vs ∧ te σ2 H3 R)
    (hg : ∀ x σ2 H2 (R R2 : L2.St → Hp → Prop), (∀ σ3 H3, R σ3 H3 → R2 σ3 H3) → g x σ2 H2 R → g x σ2 H2 R2)
    (hd : ∀ H, Ex H1 H → H D = some (.lst vals) → Qd H) :
    ∃ W : Nat → Nat → Hp → Prop, (∃ m, W 0 m (upd H1 D (.lst []))) ∧ ∀ i m H, W i m H →
      (J.stop i H ∧ Qd H) ∨ (J.go i H ∧ ∃ Nx : Hp → Prop, (∀ H2, Nx H2 → ∃ m2, m2 < m ∧ W (i + 1) m2 H2) ∧ ∀ x H2, J.yld i H x H2 → g x (wipe σ vs) H2 fun σ2 H3 => wipe σ2 vs = wipe σ vs ∧ tYes σ2 H3 fun b H4 =>
        if b = true then te σ2 H4 fun y H5 => ∃ acc, H5 D = some (.lst acc) ∧ acc.length < sizeLine ∧ Nx (upd H5 D (.lst (acc ++ [y]))) else Nx H4) := by
  refine lc_out w (fun i => vals.take i) rfl hD (fun i hi => ?_) hG (fun i x H H2 Nx hi e hDi y kA _ => ?_) (fun H e h => hd H e ?_)
  · rw [List.length_take]
    exact Nat.lt_of_le_of_lt (Nat.le_trans (Nat.min_le_right _ _) (by rw [hn]; exact hl)) (by decide)
  · refine hg _ _ _ _ _ (fun σ3 H3 q => ⟨q.1, ?_⟩) (hs i x H H2 (fun y H5 => ∃ acc, H5 D = some (.lst acc) ∧ acc.length < sizeLine ∧ Nx (upd H5 D (.lst (acc ++ [y])))) hi e y fun y2 H5 e5 ev => kA y2 H5 e5 ?_)
    · exact q.2
    · rw [List.take_add_one, ev]
      rfl
  · rw [h, List.take_of_length_le (by rw [hn]; exact Nat.le_refl _)]
theorem gmono_name {i : Nat} : ∀ x σ2 H2 (R R2 : L2.St → Hp → Prop), (∀ σ3 H3, R σ3 H3 → R2 σ3 H3) → gName i x σ2 H2 R → gName i x σ2 H2 R2 := fun _ _ _ _ _ h q => h _ _ q
theorem gmono_nil : ∀ vs σ2 H2 (R R2 : L2.St → Hp → Prop), (∀ σ3 H3, R σ3 H3 → R2 σ3 H3) → gNil vs σ2 H2 R → gNil vs σ2 H2 R2 := fun _ _ _ _ _ h q => ⟨q.1, h _ _ q.2⟩
theorem gmono_cons {t : TG} {u : TGs} (ht : ∀ x σ2 H2 (R R2 : L2.St → Hp → Prop), (∀ σ3 H3, R σ3 H3 → R2 σ3 H3) → t x σ2 H2 R → t x σ2 H2 R2) (hu : ∀ x σ2 H2 (R R2 : L2.St → Hp → Prop), (∀ σ3 H3, R σ3 H3 → R2 σ3 H3) → u x σ2 H2 R → u x σ2 H2 R2) :
    ∀ vs σ2 H2 (R R2 : L2.St → Hp → Prop), (∀ σ3 H3, R σ3 H3 → R2 σ3 H3) → gCons t u vs σ2 H2 R → gCons t u vs σ2 H2 R2 := fun vs σ2 H2 R R2 h q => by
  obtain ⟨v, r, e, q⟩ := q
  exact ⟨v, r, e, ht _ _ _ _ _ (fun σ3 H3 z => hu _ _ _ _ _ h z) q⟩
theorem gmono_tup {K : PySem.W.Frag} {n : Nat} {t : TGs} (ht : ∀ x σ2 H2 (R R2 : L2.St → Hp → Prop), (∀ σ3 H3, R σ3 H3 → R2 σ3 H3) → t x σ2 H2 R → t x σ2 H2 R2) :
    ∀ v σ2 H2 (R R2 : L2.St → Hp → Prop), (∀ σ3 H3, R σ3 H3 → R2 σ3 H3) → gTup K n t v σ2 H2 R → gTup K n t v σ2 H2 R2 := fun v σ2 H2 R R2 h q => by
  obtain ⟨a, xs, e, h1, h2, q⟩ := q
  exact ⟨a, xs, e, h1, h2, ht _ _ _ _ _ h q⟩
/-! ### a list or a tuple walked -/
def ItS (K : PySem.W.Frag) (p : Bool × Addr) : It := if p.1 = true then Itt K p.2 else Itl K p.2
def iSeq (K : PySem.W.Frag) (tl : TE) : TI := fun σ H R => tl σ H fun x H1 => ∃ p : Bool × Addr, x = .ref p.2 ∧ (∃ xs, CZ.SqK K H1 p xs) ∧ R (ItS K p) H1
theorem pi_seq {X : Cx} {tg l : Expr} {tl : TE} (hl : PE X l tl) : PI X tg l (iSeq X.K tl) := by
  refine ⟨fun pins s σ H R I h => ?_⟩
  refine thn (hl.run pins s σ H _ I h) fun v s1 ⟨x, H1, I1, r1, q1⟩ => ?_
  obtain ⟨⟨b, a⟩, ex, ⟨xs, hq⟩, q⟩ := q1
  subst ex
  cases r1
  obtain ⟨its, rv, g, lt⟩ := CZ.sq_seq I1 hq
  have fp : ∀ c ∈ [s1.heap.objs.size], FpOk X pins H1 c := fun c hc => by
    have e : c = s1.heap.objs.size := by simpa using hc
    rw [e]
    exact I1.fpOk (Nat.le_refl _) (I1.hok.fresh (Nat.le_refl _))
  refine (CZ.begins_of (b, a) its).iter _ _ _ _ s1 _ g ?_
  have I2 : Inv X pins σ H1 { s1 with heap := s1.heap.push (CZ.itO (b, a)) } := I1.kept (t' := s1.toks) fun c o e => Heap.get?_push_of_some _ e
  cases b
  · exact ⟨_, [s1.heap.objs.size], _, _, H1, rfl, I2, turn_list a _, ⟨_, Heap.get?_push_size _ rfl, rfl, rfl⟩, fp, q⟩
  · exact ⟨_, [s1.heap.objs.size], _, _, H1, rfl, I2, turn_tuple a _, ⟨_, Heap.get?_push_size _ rfl, rfl, rfl⟩, fp, q⟩
theorem walk_seq {K : PySem.W.Frag} {p : Bool × Addr} {xs : List V} : Walk (ItS K p) xs.length (fun H => CZ.SqK K H p xs) (YAt xs) := by
  obtain ⟨b, a⟩ := p
  cases b
  · exact walk_list
  · exact walk_tup
theorem itt {c : Bool} {A B : Prop} (h : c = true) (a : A) : if c = true then A else B := by rw [if_pos h]; exact a
theorem itf {c : Bool} {A B : Prop} (h : c = false) (b : B) : if c = true then A else B := by rw [h, if_neg Bool.false_ne_true]; exact b
theorem map_get {α : Type} {f : α → V} {l : List α} {i : Nat} {x : V} (h : (l.map f)[i]? = some x) : ∃ n, l[i]? = some n ∧ x = f n := by
  rw [List.getElem?_map] at h
  cases e : l[i]? with
  | none => rw [e] at h; cases h
  | some n => rw [e] at h; exact ⟨n, rfl, (Option.some.inj h).symm⟩
end CS

namespace CE
open PySem PySem.Spec PyProof.Rows L2 CZ
/-! ### enumerate over a list or a tuple -/
theorem enumO_new {v : Value} {oo : Obj} {Hq : Heap → Prop} (bg : Begins v oo Hq) :
    Meets (Builtin.«enumerate.__new__» ⟨[.type "enumerate", v], []⟩) (fun _ R t => Hq t.heap ∧
      R (.ok (.ret (.ref (t.heap.push oo).objs.size))) { t with heap := (t.heap.push oo).push { cls := .type "enumerate", data := .fields #[.none, .bool false, .ref t.heap.objs.size, rawInt 0, .none, .none] } }) :=
  .of_wp fun pg wo Ar R t hyp => by
    obtain ⟨hh, gg, dd, tt, oq⟩ := t
    obtain ⟨start, goal⟩ := hyp
    have es := PySem.sub_enumerate
    have go1 : ∀ {A2 : Around} {E2 : Value → Shared → Prop} {Q2 : Value → Shared → Prop}, Q2 (.ref hh.objs.size) ⟨hh.push oo, gg, dd, tt, oq⟩ → wpAny (model pg wo) A2 (pyIter v) Q2 E2 ⟨hh, gg, dd, tt, oq⟩ :=
      fun z => bg.iter pg wo _ _ ⟨hh, gg, dd, tt, oq⟩ _ start z
    wp_walk using go1
    refine wpAny_stack_any fun stk => wpAny_pure ?_
    split
    · rename_i cc _ _ _ _ _
      cases (cc == Value.type "enumerate")
      all_goals
        wp_walk using go1
        exact ⟨_, rfl, goal⟩
    · wp_walk using go1
      exact ⟨_, rfl, goal⟩
theorem enum_of {pg : Program} {wo : World} {Ar : Around} {Ex1 : Value → Shared → Prop} {t : Shared} {v : Value} {oo : Obj} {Hq : Heap → Prop} {Qe : Value → Shared → Prop} (bg : Begins v oo Hq) (start : Hq t.heap)
    (goal : ∀ hN, IsEnum hN (t.heap.objs.size + 1) t.heap.objs.size 0 .none → hN.get? t.heap.objs.size = some oo → (∀ c ob, t.heap.get? c = some ob → hN.get? c = some ob) → Qe (.ref (t.heap.objs.size + 1)) { t with heap := hN }) :
    wpAny (model pg wo) Ar (call (.type "enumerate") [v]) Qe Ex1 t := by
  refine callType_new F.called_enumerate (by decide) (F.typeCall_enumerate_1 _) (F.newCall_enumerate_1 _) (fun ob => F.args_object_init_2 ob _) F.entry_enumerate_new (enumO_new bg) ⟨start, ?_⟩
  have size1 : (t.heap.push oo).objs.size = t.heap.objs.size + 1 := Heap.size_push ..
  have isE : IsEnum ((t.heap.push oo).push { cls := .type "enumerate", data := .fields #[.none, .bool false, .ref t.heap.objs.size, rawInt 0, .none, .none] }) (t.heap.objs.size + 1) t.heap.objs.size 0 .none := by
    have at1 := Heap.get?_push_size (t.heap.push oo) (o := { cls := .type "enumerate", data := .fields #[.none, .bool false, .ref t.heap.objs.size, rawInt 0, .none, .none] }) rfl
    rw [size1] at at1
    exact at1
  show _ ∧ _
  rw [size1]
  exact ⟨⟨_, isE, rfl⟩, goal _ isE (Heap.get?_push_of_some _ (Heap.get?_push_size _ bg.free)) fun c ob z => Heap.get?_push_of_some _ (Heap.get?_push_of_some _ z)⟩
/-- what stands at p, each item in a new pair -/
def ItE (K : PySem.W.Frag) (p : Bool × Addr) : It :=
  ⟨fun i H => ∃ (xs : List V) (x : V), SqK K H p xs ∧ xs[i]? = some x, fun i H v H2 => ∃ T x, v = .ref T ∧ H T = none ∧ H2 = upd H T (.tup [.int (i : Nat), x]) ∧ ∀ xs, SqK K H p xs → xs[i]? = some x, fun i H => ∃ xs : List V, SqK K H p xs ∧ xs.length = i⟩
theorem turn_e {P : Program} {w : World} {K : PySem.W.Frag} {elts : List Expr} {kk : Nat} {tpos : Pos} {en it : Addr} {p : Bool × Addr} (n1 : p.2 ≠ it) (n2 : en ≠ it) (n3 : en ≠ p.2) :
    Turn P w K (.Tuple elts kk tpos) (ItE K p) [en, it] en (fun i h => (∃ old, IsEnum h en it ((i : Nat) : Int) old) ∧ SqIt h it p i) where
  mem := by simp
  obj := fun i h st c hc => by
    obtain ⟨⟨old, ie⟩, si⟩ := st
    have e : c = en ∨ c = it := by simpa using hc
    rcases e with q | q
    · rw [q]; exact ⟨_, ie, fun v q => nomatch q⟩
    · rw [q]; exact si.obj
  keep := fun i h h2 st k => by
    obtain ⟨⟨old, ie⟩, si⟩ := st
    exact ⟨⟨old, k en (by simp) _ ie⟩, si.at fun o q => k it (by simp) o q⟩
  item := by
    intro X hP hw hK hc i pins s σ H E I hf st hg
    subst hP hw hK
    obtain ⟨⟨old, ie⟩, si⟩ := st
    obtain ⟨xs, x, hq, hx⟩ := hg
    obtain ⟨its, rv, sq, _⟩ := sq_seq I hq
    obtain ⟨u, hu, ru⟩ := rv.get hx
    have gu : its.toArray[i]? = some u := by simpa using hu
    have lu : i < its.toArray.size := by
      have := (List.getElem?_eq_some_iff.mp hu).1
      simpa using this
    have enl : en < s.heap.objs.size := Heap.lt_size ie
    have itl : it < s.heap.objs.size := by
      obtain ⟨_, q, _⟩ := si.obj
      exact Heap.lt_size q
    refine PySem.wpAny_pyNext_enum_itemD (draws_of (A := X.A.in1) (I.ok.hd hc) it p n1 its) ie ⟨si, sq⟩ lu n2 (by simp [n2, n3]) fun x1 hA tk hx1 out ⟨si2, _⟩ hT hsz hk => ?_
    obtain rfl : u = x1 := Option.some.inj (gu.symm.trans hx1)
    refine ⟨_, rfl, wpAny_letOwnedTupleGo_enum (s := { s with heap := hA, toks := tk + 1 }) out fun hB isB sb => ?_⟩
    replace sb : Heap.SameBut en hA hB := sb
    have hT2 : hB.get? s.heap.objs.size = some { cls := .type "tuple", data := .seq #[.int i tk, u] } := (sb.2 _ (Nat.ne_of_gt enl)).trans hT
    have made : ObjOk X.prog X.w (upd H s.heap.objs.size (.tup [.int (i : Nat), x])) hB s.heap.objs.size (.tup [.int (i : Nat), x]) := ⟨by show 2 ≤ sizeLine; decide, [.int i tk, u], .cons ⟨_, rfl⟩ (.cons ru .nil), ⟨_, hT2, rfl, _, rfl⟩⟩
    have I1 : Inv X pins σ (upd H s.heap.objs.size (.tup [.int (i : Nat), x])) { s with heap := hB, toks := tk + 1 } :=
      I.turnedNew (t' := tk + 1) (ch := [en, it]) (fun c ob hb q => (sb.2 c (fun z => hb (by simp [z]))).trans (hk c ob (fun z => hb (by simp [z])) (fun z => hb (by simp [z])) q)) hf (Nat.le_refl _) made
    refine ⟨.ref s.heap.objs.size, _, I1, rfl, ⟨_, x, rfl, I.hok.fresh (Nat.le_refl _), rfl, fun ys hy => by rw [sq_inj I hy hq]; exact hx⟩, ⟨⟨u, ?_⟩, si2.at fun o q => (sb.2 it n2.symm).trans q⟩, fun c hcm => ?_⟩
    · have next : ((i + 1 : Nat) : Int) = (i : Int) + 1 := by omega
      rw [next]
      exact isB
    · have small : c < s.heap.objs.size := by
        have e : c = en ∨ c = it := by simpa using hcm
        rcases e with q | q
        · rw [q]; exact enl
        · rw [q]; exact itl
      rw [upd_ne (Nat.ne_of_lt small)]
      exact (hf c hcm).1
  done := by
    intro X hP hw hK hc i pins s σ H E I hf st hg
    subst hP hw hK
    obtain ⟨⟨old, ie⟩, si⟩ := st
    obtain ⟨xs, hq, hx⟩ := hg
    obtain ⟨its, rv, sq, _⟩ := sq_seq I hq
    have li : its.toArray.size = i := by
      have := rv.length
      simp
      omega
    have dr := draws_of (prog := X.prog) (w := X.w) (A := X.A.in1) (I.ok.hd hc) it p n1 its
    rw [li] at dr
    exact PySem.wpAny_pyNext_enum_endD dr ie ⟨si, sq⟩ fun hA eb => ⟨rfl, I.turnedL (t' := s.toks) (ch := [en, it]) (fun c ob hb q => eb c ob (fun z => hb (by simp [z])) q) hf⟩
  self := fun A i s Q E st h => let ⟨⟨_, ie⟩, _⟩ := st; wpAny_pyIter_enum ie h
theorem walk_e {K : PySem.W.Frag} {p : Bool × Addr} {xs : List V} : Walk (ItE K p) xs.length (fun H => SqK K H p xs) (YPair (fun i => some (.int (i : Nat))) (fun i => xs[i]?)) :=
  ⟨fun i _ hi q => ⟨xs, xs[i], q, by simp [hi]⟩, fun _ q => ⟨xs, q, rfl⟩, fun i H v H2 _ q y => by
    obtain ⟨T, x, h1, h2, h3, h4⟩ := y
    exact ⟨T, _, x, h1, h2, h3, rfl, h4 xs q⟩⟩
/-- enumerate(e), e a list or a tuple -/
def iE (K : PySem.W.Frag) (ta : TA) : TI := fun σ H R => ta σ H fun vs H1 => ∃ p : Bool × Addr, vs = [.ref p.2] ∧ (∃ xs, SqK K H1 p xs) ∧ R (ItE K p) H1
theorem pi_e {X : Cx} {e : Expr} {ta : TA} {po pos tpos : Pos} {elts : List Expr} {kk : Nat} (hg : Gl X "enumerate") (hm : X.mg "enumerate" = none) (ha : PA X [e] ta) (hs : starEach [e] X.env = [(false, eval e X.env)] := by rfl) :
    PI X (.Tuple elts kk tpos) (.Call (.Name "enumerate" po) [e] [] pos) (iE X.K ta) := by
  refine ⟨fun pins s σ H R I h => ?_⟩
  refine Call_ (ld_blt I hg hm boot_enumerate (PyProof.Rows.callWith_type1 (thn (ha.run pos pins s σ H _ I h) fun us s0 ⟨vs, H1, I1, r1, q1⟩ => ?_) hs rfl))
  obtain ⟨p, ev, ⟨xs, hq⟩, q1⟩ := q1
  subst ev
  cases r1 with
  | cons r rr =>
    cases rr
    cases r
    obtain ⟨its, rv, sq, lt⟩ := sq_seq I1 hq
    refine enum_of (begins_of p its) sq fun hN ie io kk2 => wpAny_pyIter_enum ie ?_
    have I2 : Inv X pins σ H1 { s0 with heap := hN } := I1.kept (t' := s0.toks) kk2
    refine ⟨s0.heap.objs.size + 1, [s0.heap.objs.size + 1, s0.heap.objs.size], _, _, H1, rfl, I2, turn_e (Nat.ne_of_lt lt) (Nat.succ_ne_self _) (Nat.ne_of_gt (Nat.lt_succ_of_lt lt)), ⟨⟨.none, ie⟩, SqIt.begin io⟩, fun c hc => ?_, q1⟩
    have le : s0.heap.objs.size ≤ c := by
      have e : c = s0.heap.objs.size + 1 ∨ c = s0.heap.objs.size := by simpa using hc
      rcases e with z | z
      · rw [z]; exact Nat.le_add_right _ _
      · rw [z]; exact Nat.le_refl _
    exact I1.fpOk le (I1.hok.fresh le)
end CE

namespace CL
open PySem PySem.Spec PyProof.Rows L2
/-! ### set(l) of a list of ints -/
section
variable {pg : Program} {wo : World} {Ar : Around} {Ee : Value → Shared → Prop} {t : Shared}
set_option maxRecDepth 100000 in
set_option maxHeartbeats 3200000 in
theorem set_of_list {l : Addr} {its : Array Value} (ns : List Int) {Qe : Value → Shared → Prop} (calm : Ar.handled = none) (isl : t.heap.IsList l its) (intsA : IntsAre its.toList ns) (few : ns.length + 1 < scanBound)
    (goal : ∀ (hN : Heap) (k c : Nat), SetR wo hN t.heap.objs.size (fun j => decide (j ∈ ns)) c → c ≤ ns.length → (∀ b ob, t.heap.get? b = some ob → hN.get? b = some ob) → Qe (.ref t.heap.objs.size) { t with heap := hN, toks := k }) :
    wpAny (model pg wo) Ar (call (.type "set") [.ref l]) Qe Ee t := by
  have len : its.size = ns.length := by
    have z := IntsAre.length intsA
    rw [Array.length_toList] at z
    exact z
  obtain ⟨cc, tail, mro⟩ := PySem.F.called_set.mro
  have made := PySem.F.called_set.made
  have sub := PySem.F.called_set.sub
  refine wpAny_call (codeAny_of_tree ?_)
  show wpAny _ _ (callAny (.type "set") _) _ _ _
  refine wpAny_pure ⟨Code.quiet_builtin _ (by decide +kernel), codeAny_builtin PySem.F.entry_type_call ?_⟩
  rw [Around.under_plain (weight_type_call_type "set" [.ref l] []) rfl]
  have noType := PySem.F.called_set.notType
  have creates := PySem.F.called_set.canCreate
  have checked := PySem.F.typeCall_set_1 (.ref l)
  repeat (any_goals (first | assumption | wp_step))
  refine codeAny_mono (code_set_led1 (.ref l) (E := Ee) (Q₁ := fun ob t1 => ob = .ref t.heap.objs.size ∧ t1 = { t with heap := t.heap.push { cls := .type "set", dict := none, data := .set #[] 0 (.fresh 0 0 (!wo.params.followText "set-order")) } }) ⟨rfl, rfl⟩) fun r t1 hr => ?_
  cases r with
  | error e => exact hr
  | ok fl =>
    cases fl with
    | ret ob =>
      obtain ⟨rfl, rfl⟩ := hr
      have hS : (t.heap.push { cls := .type "set", dict := none, data := .set #[] 0 (.fresh 0 0 (!wo.params.followText "set-order")) }).get? t.heap.objs.size = some { cls := .type "set", dict := none, data := .set #[] 0 (.fresh 0 0 (!wo.params.followText "set-order")) } := Heap.get?_push_size _ rfl
      have tS : Shared.TypeIs { t with heap := t.heap.push { cls := .type "set", dict := none, data := .set #[] 0 (.fresh 0 0 (!wo.params.followText "set-order")) } } (.ref t.heap.objs.size) "set" := ⟨_, hS, rfl⟩
      have ini := PySem.F.called_set.init.lookup
      have bnd := PySem.F.called_set.init.bind (.ref t.heap.objs.size)
      repeat (any_goals (first | assumption | wp_step))
      refine codeAny_mono (codeAny_call_builtin (R := wants (fun r t2 => r = .none ∧ ∃ hN k c, t2 = { t with heap := hN, toks := k } ∧ SetR wo hN t.heap.objs.size (fun j => decide (j ∈ ns)) c ∧ c ≤ ns.length ∧
          (∀ b ob, t.heap.get? b = some ob → hN.get? b = some ob)) Ee) PySem.F.called_set.init.plain PySem.F.entry_set_init (check_set_init_1 tS ?_)) fun r2 t2 hr2 => ?_
      · obtain ⟨ol, hol, hcl, nl, hdl⟩ := id isl
        obtain ⟨ocls, odict, odata, oslots⟩ := ol
        simp only at hcl hdl
        subst hcl
        subst hdl
        have hol2 : (t.heap.push { cls := .type "set", dict := none, data := .set #[] 0 (.fresh 0 0 (!wo.params.followText "set-order")) }).get? l = some { cls := .type "list", dict := odict, data := .seq its nl, slots := oslots } := Heap.get?_push_of_some _ hol
        have s1 := PySem.F.sub_list_set
        have s2 := PySem.F.sub_list_frozenset
        have nd : (Value.type "list" == Value.type "dict") = false := by decide
        have isl2 : (t.heap.push { cls := .type "set", dict := none, data := .set #[] 0 (.fresh 0 0 (!wo.params.followText "set-order")) }).IsList l its := ⟨_, hol2, rfl, nl, rfl⟩
        unfold Builtin.«set.__init__» noKeywords Builtin.Frozenset.updateFrom
        generalize hPI : pyIter = PIt
        wp_walk
        subst hPI
        refine wpAny_pyIter_list isl2 ?_
        refine wpAny_bind (wpAny_runValue ?_)
        have lS : l < t.heap.objs.size := Heap.lt_size hol
        have calm3 : Ar.in1.in1.in1.handled = none := by simp [calm]
        have neI : l ≠ (t.heap.push { cls := .type "set", dict := none, data := .set #[] 0 (.fresh 0 0 (!wo.params.followText "set-order")) }).objs.size := by
          rw [Heap.size_push]
          exact Nat.ne_of_lt (Nat.lt_succ_of_lt lS)
        have notF : t.heap.objs.size ∉ [(t.heap.push { cls := .type "set", dict := none, data := .set #[] 0 (.fresh 0 0 (!wo.params.followText "set-order")) }).objs.size, l] := by
          rw [Heap.size_push]
          simp only [List.mem_cons, List.not_mem_nil, or_false, not_or]
          exact ⟨Nat.ne_of_lt (Nat.lt_succ_self _), Nat.ne_of_gt lS⟩
        have vals : ∀ (i : Nat) (v : Value), its[i]? = some v → ∃ k u, ns[i]? = some k ∧ v = .int k u := fun i v hv => by
          have hi : i < ns.length := by
            rw [← len]
            exact (Array.getElem?_eq_some_iff.mp hv).1
          obtain ⟨u, e⟩ := PyProof.Rows.IntsAre.int_at intsA i v (by rw [Array.getElem?_toList]; exact hv)
          refine ⟨ns[i], u, List.getElem?_eq_getElem hi, ?_⟩
          rw [e, List.getD_eq_getElem?_getD, List.getElem?_eq_getElem hi] <;> rfl
        refine set_update_ints ((Walks.list calm3 _ l neI its).toS) t.heap.objs.size notF ns len few vals (its.size - 0) 0 _ (by omega) (Nat.zero_le _) ⟨⟨_, Heap.get?_push_size _ rfl, rfl, rfl⟩, (isl2.push _)⟩ ?first ?last
        case first =>
          exact ⟨0, Nat.le_refl 0, setR_new_at (Heap.get?_push_of_some _ hS)⟩
        case last =>
          intro t3 c3 mv hc3 hS3
          obtain ⟨hN, g3, d3, k3, os3⟩ := t3
          obtain rfl : g3 = t.gens := mv.gens
          obtain rfl : d3 = t.drawn := mv.drawn
          obtain rfl : os3 = t.os := mv.os
          show wpAny _ _ _ _ _ _
          refine wpAny_pure ?_
          show wpAny _ _ (ret Value.none) _ _ _
          rw [len] at hc3
          refine wpAny_pure ⟨rfl, hN, k3, c3, rfl, hS3, hc3, fun b ob e => ?_⟩
          have b0 : b < t.heap.objs.size := Heap.lt_size e
          have b2 : b ≠ (t.heap.push { cls := .type "set", dict := none, data := .set #[] 0 (.fresh 0 0 (!wo.params.followText "set-order")) }).objs.size := by
            rw [Heap.size_push]
            exact Nat.ne_of_lt (Nat.lt_succ_of_lt b0)
          exact mv.heap b ob (by simp only [List.mem_cons, List.not_mem_nil, or_false, not_or]; exact ⟨Nat.ne_of_lt b0, b2⟩) (Heap.get?_push_of_some _ (Heap.get?_push_of_some _ e))
      · cases r2 with
        | error e => exact hr2
        | ok fl2 =>
          cases fl2 with
          | ret r =>
            obtain ⟨rfl, hN, k, c2, rfl, hS2, hc2, hk2⟩ := hr2
            repeat (any_goals (first | assumption | wp_step))
            exact goal _ _ _ hS2 hc2 hk2
          | _ => exact hr2.elim
    | _ => exact hr.elim
end
/-- set(l), l a list of ints -/
def rSetI (K : PySem.W.Frag) (w : World) : List V → Hp → VK → Prop := fun vs H Q => ∃ (a : Addr) (ns : List Int), vs = [V.ref a] ∧ SqL K H a (ns.map V.int) ∧ ns.length + 1 < scanBound ∧ ∀ p c, H p = none → c ≤ ns.length → Q (.ref p) (upd H p (SetO w p (fun j => decide (j ∈ ns)) c))
theorem call_setI {X : Cx} (hc : X.calm = true) : CallR X (.type "set") (rSetI X.K X.w) := by
  intro pins s σ H vs us Q I r h
  obtain ⟨a, ns, rfl, hl, few, q⟩ := h
  rw [Vals.ref1 r]
  obtain ⟨its, rv, pl, _⟩ := I.list hl
  refine set_of_list ns (I.ok.hd hc) pl.isList (by rw [List.toList_toArray]; exact intsAre_of rv) few fun hN k c new hcl keep => ?_
  exact ⟨.ref _, upd H s.heap.objs.size (SetO X.w s.heap.objs.size (fun j => decide (j ∈ ns)) c), I.laid (t' := k) keep (Nat.le_refl _) (setO_new new), rfl, q _ c (I.hok.fresh (Nat.le_refl _)) hcl⟩
end CL

namespace CS
open PySem PySem.Spec PyProof.Rows L2
/-! ### more rules beside the layer's -/
section
variable {X : Cx}
/-- o.f as a target -/
def gFld (K : PySem.W.Frag) (to : TE) (f : Str) : TG := fun v σ H Q => to σ H fun x H1 => ∃ a C dx fs, x = .ref a ∧ H1 a = some (.ins C dx fs) ∧ Cls K C ∧ NoAttr K C f ∧ fs.length < 1000 ∧ Q σ (upd H1 a (.ins C dx (putF f v fs)))
theorem pg_fld {o : Expr} {f : Str} {pos : Pos} {to : TE} (ho : PE X o to) : PG X (.Attribute o f pos) (gFld X.K to f) := by
  refine ⟨fun pins s σ H v u Q I r h => ?_⟩
  rw [assign_Attribute]
  refine wpAny_bind (wpAny_holding (thn (ho.run pins s σ H _ I h) fun ov s1 ⟨x, H1, I1, r1, a, C, dx, fs, ex, ea, c, n, l, q⟩ => ?_))
  subst ex
  obtain rfl : ov = Value.ref a := r1
  refine wpAny_bind (wpAny_standAt (wpAny_bind (wpAny_holding (setattr_ok I1 ea c n l r fun s3 I3 => ?_))))
  exact wpAny_release ⟨σ, _, I3, q⟩
theorem pe_fldK {e : Expr} {f : Str} {pos : Pos} {ta : TE} (K : PySem.W.Frag) (hk : X.K = K) (he : PE X e ta) (hb : attributeBase e f X.env (eval e X.env) = eval e X.env) : PE X (.Attribute e f pos) (tFld K ta f) := by
  subst hk
  exact pe_fld he hb
def rLenQ (K : PySem.W.Frag) : List V → Hp → VK → Prop := fun xs H Q => ∃ p ys, xs = [.ref p] ∧ (SqL K H p ys ∨ SqT K H p ys) ∧ Q (.int ys.length) H
def rListQ (K : PySem.W.Frag) : List V → Hp → VK → Prop := fun xs H Q => ∃ p ys, xs = [.ref p] ∧ (SqL K H p ys ∨ SqT K H p ys) ∧ ∀ l, H l = none → Q (.ref l) (upd H l (.lst ys))
def rTupleQ (K : PySem.W.Frag) : List V → Hp → VK → Prop := fun xs H Q => ∃ p ys, xs = [.ref p] ∧ ((SqL K H p ys ∧ ∀ l, H l = none → Q (.ref l) (upd H l (.tup ys))) ∨ (SqT K H p ys ∧ Q (.ref p) H))
/-- // by a divisor of either sign -/
def CDivNW (_ j : Int) : Prop := j ≠ 0 ∧ j.natAbs.log2 < 9000
theorem op_fdivNW : OpR X (binaryOp .FloorDiv) (rI CDivNW fun i j => .int (i.fdiv j)) := opI fun _ _ _ _ _ _ _ hc q => floordiv_int hc.1 q (.inl (PyProof.noPylong_of_log2 hc.2))
theorem wide_divN {i j : Int} {b : Nat} (h : j ≠ 0) (hb : j.natAbs < 2 ^ b) (h0 : 0 < b) (h9 : b ≤ 9000) : CDivNW i j := ⟨h, Nat.lt_of_lt_of_le (PySem.Flt.log2_lt_of h0 hb) h9⟩
theorem kit_self {K : PySem.W.Frag} {C : Addr} : PySem.W.kitOne K (.ref C) (.ref C) = some true := by
  unfold PySem.W.kitOne
  rw [if_pos (by simp)]
theorem pe_revLK {e : Expr} {te : TE} {k : Nat} {p1 p2 p3 pos : Pos} (K : PySem.W.Frag) (hk : X.K = K) (he : PE X e te) : PE X (.Subscript e (.Slice none none (some (.UnaryOp .USub (.Constant (.int 1) k p1) p2)) p3) pos) (tRevL K te) := by
  subst hk
  exact pe_revL he
/-- x in s, a list or a tuple of data -/
def rInQ (K : PySem.W.Frag) : R2 := fun x y H Q => ∃ d ds, Dp K H x d ∧ (Dp K H y (.list ds) ∨ Dp K H y (.tuple ds)) ∧ SeqAt.shaped d = true ∧ SeqAt.shaped (.list ds) = true ∧ Q (.bl (ds.any fun z => PyData.eqv z d)) H
def rNotInQ (K : PySem.W.Frag) : R2 := fun x y H Q => ∃ d ds, Dp K H x d ∧ (Dp K H y (.list ds) ∨ Dp K H y (.tuple ds)) ∧ SeqAt.shaped d = true ∧ SeqAt.shaped (.list ds) = true ∧ Q (.bl (!ds.any fun z => PyData.eqv z d)) H
theorem op_inQ (hu : X.A.units + 65 < cLine) : OpR X (compareOp .In) (rInQ X.K) := by
  intro pins s σ H x y v u Q I rx ry h
  obtain ⟨d, ds, hd, he, sd, se, q⟩ := h
  obtain ⟨as, r1⟩ := Dp.reads I d x v hd rx
  rcases he with he | he
  · obtain ⟨bs, r2⟩ := Dp.reads I (.list ds) y u he ry
    exact SeqAt.in_list_reads r2 r1 (SeqAt.canLay_of_shaped se) (SeqAt.canLay_of_shaped sd) (room_in_shaped sd hu) ⟨.bl _, H, I, rfl, q⟩
  · obtain ⟨bs, r2⟩ := Dp.reads I (.tuple ds) y u he ry
    exact SeqAt.in_tuple_reads r2 r1 (SeqAt.canLay_of_shaped se) (SeqAt.canLay_of_shaped sd) (room_in_shaped sd hu) ⟨.bl _, H, I, rfl, q⟩
theorem op_notInQ (hu : X.A.units + 65 < cLine) : OpR X (compareOp .NotIn) (rNotInQ X.K) := by
  intro pins s σ H x y v u Q I rx ry h
  obtain ⟨d, ds, hd, he, sd, se, q⟩ := h
  obtain ⟨as, r1⟩ := Dp.reads I d x v hd rx
  rcases he with he | he
  · obtain ⟨bs, r2⟩ := Dp.reads I (.list ds) y u he ry
    exact SeqAt.notIn_list_reads r2 r1 (SeqAt.canLay_of_shaped se) (SeqAt.canLay_of_shaped sd) (room_in_shaped sd hu) ⟨.bl _, H, I, rfl, q⟩
  · obtain ⟨bs, r2⟩ := Dp.reads I (.tuple ds) y u he ry
    exact SeqAt.notIn_tuple_reads r2 r1 (SeqAt.canLay_of_shaped se) (SeqAt.canLay_of_shaped sd) (room_in_shaped sd hu) ⟨.bl _, H, I, rfl, q⟩
end
end CS

/-! ### promises for callers that print nothing yet, and repr -/
namespace CG
open PySem PySem.Spec PyProof.Rows L2
/-- a promise that is kept where nothing is being printed -/
structure FnOkG (P : Program) (w : World) (K : PySem.W.Frag) (mg : Str → Option Value) (base : Heap) (k : Nat) (f : Addr) (fd : FuncData) (ps : List Str) (sp : Sp) : Prop where
  size : ∀ vs H Q E, sp vs H Q E → vs.length = ps.length
  go : ∀ (A : Around) (fr : List Env) (s : Shared) (H : Hp) (as : Args) (us : List Value) (vs : List V) (Q : VK) (E : XK), A.guards = some [] → Room k A → Env0 P w K mg base A fr s H → BindsTo s fd as (ps.zip us) → Vals vs us → sp vs H Q E →
    codeAny (model P w) A (.call (.ref f) as) (CR CX0 fr P w H s Q E) s
theorem FnOkG.of {P : Program} {w : World} {K : PySem.W.Frag} {mg : Str → Option Value} {base : Heap} {k : Nat} {f : Addr} {fd : FuncData} {ps : List Str} {sp : Sp} (F : FnOk P w K mg base CX0 k f fd ps sp) : FnOkG P w K mg base k f fd ps sp :=
  ⟨F.len, fun A fr s H as us vs Q E _ => F.run A fr s H as us vs Q E⟩
section
variable {P : Program} {w : World} {K : PySem.W.Frag} {mg : Str → Option Value} {base : Heap}
/-- a def by its body, where nothing is being printed -/
theorem okG {x qual : Str} {st : Stmt} {f : Addr} {fd : FuncData} {N ps : List Str} {k : Nat} {sp : Sp} (F : Fun K x qual st f fd) (S : FnScope N ps (defScope st)) (len : ∀ vs H Q E, sp vs H Q E → vs.length = ps.length)
    (body : ∀ (cdv : Value) (A : Around) (fr : List Env) (s : Shared) (H : Hp) (vs : List V) (Q : VK) (E : XK), A.guards = some [] → Room k (A.deeper (envOfC qual (defScope st) s.heap.objs.size f cdv)) → sp vs H Q E →
      ∃ t, PSs (cxOf CX0 P w K mg base N qual (defScope st) f cdv A fr s H E).nox (defBody st) t ∧ t { nx := fun _ H' => Q .non H', rt := Q } (start N vs) H) : FnOkG P w K mg base (k + 1) f fd ps sp := by
  obtain ⟨o1, o2, d1, d2, d3, o3, cd, ct, o4, rfl, look, code⟩ := F.ex
  refine ⟨len, fun A fr s H as us vs Q E gd room en bind rel want => ?_⟩
  have kin : K.In s.heap := en.mod.kin.keeps fun b o e => (en.bs b o e).1
  have nolim : s.heap.NoLimit := en.mod.nolimit.keeps fun b o e => (en.bs b o e).1
  have kinds : ∀ y ∈ ps.zip us, (defScope st).names.lookup y.1 = some .local ∨ ((defScope st).names.lookup y.1 = some .cell ∧ ((cellsFrom (s.heap.objs.size + 1) (defScope st).names []).lookup y.1).isSome = true) := fun ⟨n, v⟩ hy =>
    (S.par n (List.of_mem_zip hy).1).imp id fun q => ⟨q, PySem.W.cellsFrom_some _ _ _ (.inl q)⟩
  refine codeAny_call_function room.depth (kin _ _ look) rfl S.co S.gen rfl (PySem.W.codeRec_of kin code) (bind _ _ _ _ ?_)
  refine wpAny_newFunctionEnv_cells S.kind kinds fun env isEnv s1 entry => ?_
  subst isEnv
  refine ⟨nolim.keeps entry.toInCall.keep, codeAny_func ?_⟩
  obtain ⟨t, rule, reading⟩ := body cd A fr s H vs Q E gd (room.deeper _) want
  have start1 : Inv (cxOf CX0 P w K mg base N qual (defScope st) f cd A fr s H E) [] (start N vs) H s1 := inv_start S room.hd en (len _ _ _ _ want) rel entry
  refine wpAny_mono (rule.nox.run [] s1 (start N vs) H _ start1 reading) (fun fl s' out => ?_) fun e s' out => out
  have close : ∀ {τ : L2.St} {H' : Hp} {v : V} {u : Value}, Inv (cxOf CX0 P w K mg base N qual (defScope st) f cd A fr s H E) [] τ H' s' → RelV v u → Q v H' → CE fr P w H s Q u s' :=
    fun {τ H' v u} J rv q => ⟨v, H', J.os, J.bare, J.base, J.hok, rv, q⟩
  match fl, out with
  | .ret u, ⟨_, _, _, J, rv, q⟩ => exact close J rv q
  | .next, ⟨_, _, J, q⟩ => exact close (v := V.non) (u := Value.none) J rfl q
  | .brk, ⟨_, _, _, q⟩ => exact q.elim
  | .cont, ⟨_, _, _, q⟩ => exact q.elim
end
section
variable {X : Cx} {k : Nat} {f : Addr} {fd : FuncData} {ps : List Str} {sp : Sp} {dvs : List V} {ds : List Value} {E : XK} {x : Str} {p pos : Pos} {e : Expr} {es : List Expr} {t : TA}
theorem goG {pins : List (Addr × Obj)} {σ : L2.St} {H : Hp} {s : Shared} {Q : VK} {us : List Value} {vs : List V} (F : FnOkG X.prog X.w X.K X.mg X.base k f fd ps sp) (gd : X.A.guards = some []) (room : Room k X.A) (bind : Binds X.K fd ps ds) (hd : Vals dvs ds) (pass : Passes CX0 X E)
    (I : Inv X pins σ H s) (rel : Vals vs us) (want : sp (vs ++ dvs) H Q E) : wpAny (model X.prog X.w) X.A (call (.ref f) us) (EP X pins σ Q) X.xe s := by
  have both : Vals (vs ++ dvs) (us ++ ds) := rel.append hd
  have size : (us ++ ds).length = ps.length := both.length.symm.trans (F.size _ _ _ _ want)
  refine wpAny_call (codeAny_mono (F.go X.A X.stack s H ⟨us, []⟩ (us ++ ds) (vs ++ dvs) Q E gd room I.env0 (bind s us I.kIn size) both want) fun out s' q => ?_)
  match out, q with
  | .error err, q => exact pass pins σ H s err s' I q
  | .ok (.ret u), q => exact I.after q
/-- the call of a def that wants nothing to be printed -/
theorem pe_callG (F : FnOkG X.prog X.w X.K X.mg X.base k f fd ps sp) (gd : X.A.guards = some []) (room : Room k X.A) (hg : Gl X x) (hm : X.mg x = some (.ref f)) (hk : PySem.W.keepIn X.K (.ref f) = true) (bind : Binds X.K fd ps ds) (hd : Vals dvs ds) (pass : Passes CX0 X E)
    (args : PA X (e :: es) t) (hdb : (x == ("__debug__" : Str)) = false := by decide) (he : starEach (e :: es) X.env = (false, eval e X.env) :: starEach es X.env := by rfl) (hpl : (backTo pos (starEach es X.env)).any (·.1) = false := by rfl) :
    PE X (.Call (.Name x p) (e :: es) [] pos) (tCall sp dvs E t) :=
  ⟨fun pins s σ H Q I h => wpAny_Call_Name_kw (ld_glob I hg hm (PySem.W.callWith_K (h₀ := X.base) I.ok.mod.kin hk (thn (args.run pos pins s σ H _ I h) fun us s1 ⟨vs, H1, I1, r, q⟩ => ⟨I1.kIn, goG F gd room bind hd pass I1 r q⟩) he hpl) hdb)⟩
/-- repr(x) of data that are known -/
def rRepr (K : PySem.W.Frag) : List V → Hp → VK → Prop := fun vs H Q => ∃ (a : Addr) (d : PyData), vs = [V.ref a] ∧ Dp K H (.ref a) d ∧ d.showable = true ∧ d.hasDict = false ∧ d.shown.length ≤ sizeLine ∧ d.depth ≤ 60 ∧ Q (.str d.shown) H
theorem cr_repr (gd : X.A.guards = some []) (hu : X.A.units + 65 < cLine) : CallR X (.builtin "repr") (rRepr X.K) := by
  intro pins s σ H vs us Q I r h
  obtain ⟨a, d, rfl, hd, sh, nd, lz, dp, q⟩ := h
  rw [Vals.ref1 r]
  obtain ⟨as, rd⟩ := Dp.reads I _ (.ref a) _ hd rfl
  refine repr_of_reads' rd sh (fun z => absurd (nd.symm.trans z) (by decide)) gd (by omega) (fun _ _ e => e) (fun h' u tk hk => ?_) lz
  exact ⟨.str d.shown, H, I.kept (t' := tk) hk, ⟨_, rfl⟩, q⟩
end
/-- the law at its script, from a promise of that kind -/
theorem law_callG {P : Program} {w : World} {K : PySem.W.Frag} {mg mb : Str → Option Value} {k : Nat} {fa a : Addr} {fd : FuncData} {x : Str} {sp : Sp} {s₁ : Shared} {us : List Value} {ms : List Int}
    (inK : K.In s₁.heap) (g1 : s₁.heap.Ns mainGlobals mg) (g2 : s₁.heap.Ns builtinsNs mb) (g3 : ∀ x : Str, x ≠ "__name__" → mb x = bootBuiltins x) (g4 : s₁.heap.NoLimit) (g5 : s₁.gens = #[])
    (at_a : s₁.heap.get? a = some { cls := .type "list", data := .seq us.toArray }) (are : IntsAre us ms) (short : ms.length ≤ sizeLine) (room : Room k callerA)
    (F : ∀ base : Heap, K.In base → base.Ns mainGlobals mg → FnOkG P w K mg base k fa fd [x] sp) (bind : ∀ (s : Shared) (u : Value), BindsTo s fd ⟨[u], []⟩ [(x, u)])
    (want : ∀ H : Hp, Only H → SqL K H a (ms.map V.int) → sp [.ref a] H (fun v _ => v = .bl true) fun _ _ _ => False) :
    codeAny (model P w) callerA (.call (.ref fa) ⟨[.ref a], []⟩) (fun r s' => r = .ok (.ret (.bool true)) ∧ OldK s₁.heap s'.heap ∧ s'.os = s₁.os ∧ AllBare s'.gens) s₁ := by
  have vals := vals_ints are
  have many := are.length
  have main : ∀ H : Hp, Only H → SqL K H a (ms.map V.int) → HOk P w H s₁.heap → (∀ b, H b ≠ none → b = a) → (H a ≠ none → K.lookup a = none) →
      codeAny (model P w) callerA (.call (.ref fa) ⟨[.ref a], []⟩) (fun r s' => r = .ok (.ret (.bool true)) ∧ OldK s₁.heap s'.heap ∧ s'.os = s₁.os ∧ AllBare s'.gens) s₁ := by
    intro H only seq hok just out
    have hid : ∀ {b : Addr} {o : Obj} {es : Array DictEntry} {n : Nat}, s₁.heap.get? b = some o → o.data = .dict es n → H b = none := fun {b o es n} e d => Classical.byContradiction fun z => by
      rw [just b z, at_a] at e
      obtain rfl := Option.some.inj e
      exact absurd (show Data.seq us.toArray _ = Data.dict es n from d) (fun z => nomatch z)
    have names : ∀ {b : Addr} {m : Str → Option Value}, s₁.heap.Ns b m → (hidT s₁.heap H).Ns b m := fun {b m} ⟨o, es, n, e, d, r⟩ => ⟨o, es, n, hidT_get e (hid e d), d, r⟩
    have inB : K.In (hidT s₁.heap H) := fun b o e => hidT_get (inK b o e) (Classical.byContradiction fun z => by
      have ba := just b z
      rw [ba] at z e
      rw [out z] at e
      exact absurd e (fun z => nomatch z))
    have known : Mod K mg (hidT s₁.heap H) := ⟨inB, names g1, ⟨mb, names g2, g3⟩, g4.elim fun mc z => ⟨mc, names z.1, z.2⟩⟩
    have entry : Env0 P w K mg (hidT s₁.heap H) callerA [] s₁ H := ⟨rfl, known, fun b o e => of_hidT e, Nat.le_of_eq (hidT_size _ _), trivial, fun b z => (List.not_mem_nil z).elim, hok, .of_eq g5⟩
    refine codeAny_mono ((F _ inB (names g1)).go callerA [] s₁ H ⟨[.ref a], []⟩ [.ref a] [.ref a] _ _ rfl room entry (bind s₁ (.ref a)) (.cons rfl .nil) (want H only seq)) fun r s' h => ?_
    match r, h with
    | .ok (.ret u), ⟨v, H', os, bare, un, hok', rel, (q : v = .bl true)⟩ =>
      subst q
      obtain rfl : u = Value.bool true := rel
      refine ⟨rfl, OldK.of_keep fun b o e => ?_, os, bare⟩
      rcases only b with z | ⟨ob, xs, z⟩
      · exact un.keep b o e z (fun m => (List.not_mem_nil m).elim) (by simp)
      · have e1 := (hok b _ z).1
        have e2 := (hok' b _ (un.frzs b ob _ z)).1
        rw [e] at e1
        rw [Option.some.inj e1]
        exact e2
  cases look : K.lookup a with
  | some o =>
    obtain rfl := Option.some.inj (at_a.symm.trans (inK a o look))
    exact main (fun _ => none) (fun _ => .inl rfl) (.inr ⟨_, us.toArray, _, look, rfl, rfl, rfl, by simpa [many] using short, by simpa using vals⟩) (fun b u z => (nomatch (show (none : Option HO) = some u from z))) (fun b z => (z rfl).elim) fun z => (z rfl).elim
  | none =>
    let O : Obj := { cls := .type "list", data := .seq us.toArray }
    let G : Hp := fun b => if b = a then some (.frz O (.lst (ms.map V.int))) else none
    have gA : G a = some (.frz O (.lst (ms.map V.int))) := if_pos rfl
    have gN : ∀ b, b ≠ a → G b = none := fun b n => if_neg n
    refine main G (fun b => ?_) (.inl (.inr ⟨O, gA⟩)) (fun b u z => ?_) (fun b z => Classical.byContradiction fun n => z (gN b n)) fun _ => look
    · rcases Decidable.em (b = a) with rfl | n
      · exact .inr ⟨_, _, gA⟩
      · exact .inl (gN b n)
    · rcases Decidable.em (b = a) with rfl | n
      · obtain rfl := Option.some.inj (gA.symm.trans z)
        exact ⟨at_a, by rw [List.length_map]; exact short, us, _, vals, at_a⟩
      · exact absurd (gN b n) (by rw [z]; exact fun e => nomatch e)
/-- a law's end, from a promise of that kind -/
theorem walk_ofG {l : PySem.W.OpenLaw} {n k : Nat} {q : Program} {loose : List Str} {XP : (Str → Option Value) → Heap → Prop} {YP : World → Heap → Prop} {d : DefRec} {x : Str}
    (most : l.most = some n) (small : n ≤ sizeLine) (plain : d.params.defaults = []) (room : Room k callerA)
    (F : ∀ (w : World) (mg : Str → Option Value) (fa : Addr) (h : Heap), YP w h → h.Ns mainGlobals mg → mg d.name = some (.ref fa) →
      ∃ (K : PySem.W.Frag) (fd : FuncData) (sp : Sp), K.In h ∧ (∀ (s : Shared) (u : Value), BindsTo s fd ⟨[u], []⟩ [(x, u)]) ∧
        (∀ (H : Hp) (a : Addr) (ms : List Int), ms.length ≤ n → Only H → SqL K H a (ms.map V.int) → sp [.ref a] H (fun v _ => v = .bl true) fun _ _ _ => False) ∧
        ∀ base : Heap, K.In base → base.Ns mainGlobals mg → FnOkG l.prog w K mg base k fa fd [x] sp) :
    PySem.W.WalkO q loose XP YP l.row.toRowW d [] (fun f vs => PySem.call f vs) :=
  Att.attach_call most plain fun w s₀ s₁ mg mb fa o pm cd doc a us ms G Y ho hd hcd named at_a are len gens => by
    obtain ⟨K, fd, sp, inK, bind, want, prom⟩ := F w mg fa _ Y G.T.g named
    exact law_callG inK G.T.g G.T.b G.T.builtins G.T.nolimit gens at_a are (Nat.le_trans len small) room prom bind fun H only seq => want H a ms len only seq
end CG

/-! ### repr of data that may be None -/
namespace CG
open PySem PySem.Spec PyProof.Rows L2
section
variable {X : Cx}
def rReprN (K : PySem.W.Frag) : List V → Hp → VK → Prop := fun vs H Q => ∃ (x : V) (d : PyData), vs = [x] ∧ (x = .non ∨ ∃ a, x = .ref a) ∧ Dp K H x d ∧ d.showable = true ∧ d.hasDict = false ∧ d.shown.length ≤ sizeLine ∧ d.depth ≤ 60 ∧ Q (.str d.shown) H
theorem cr_reprN (gd : X.A.guards = some []) (hu : X.A.units + 65 < cLine) : CallR X (.builtin "repr") (rReprN X.K) := by
  intro pins s σ H vs us Q I r h
  obtain ⟨x, d, rfl, c, hd, sh, nd, lz, dp, q⟩ := h
  rcases c with rfl | ⟨a, rfl⟩
  · cases hd
    obtain ⟨u, rfl, rfl⟩ := vals1 r
    exact PySem.P.repr_of_none ⟨.str _, H, I.tok _, ⟨_, rfl⟩, q⟩
  · exact cr_repr gd hu pins s σ H _ us Q I r ⟨a, d, rfl, hd, sh, nd, lz, dp, q⟩
end
end CG

/-! ### repr of data that may hold empty dicts -/
namespace CG
open PySem PySem.Spec PyProof.Rows L2
mutual
/-- data, empty dicts among them -/
inductive De (K : PySem.W.Frag) (H : Hp) : V → PyData → Prop
  | non : De K H .non .none
  | bl (b : Bool) : De K H (.bl b) (.bool b)
  | int (i : Int) : De K H (.int i) (.int i)
  | str (x : Str) : De K H (.str x) (.str x)
  | lst {a : Addr} {xs : List V} {ds : List PyData} : SqL K H a xs → DeAll K H xs ds → De K H (.ref a) (.list ds)
  | tup {a : Addr} {xs : List V} {ds : List PyData} : SqT K H a xs → DeAll K H xs ds → De K H (.ref a) (.tuple ds)
  | emp {a : Addr} : H a = some (.dK []) → De K H (.ref a) (.dict [])
inductive DeAll (K : PySem.W.Frag) (H : Hp) : List V → List PyData → Prop
  | nil : DeAll K H [] []
  | cons {v : V} {vs : List V} {d : PyData} {ds : List PyData} : De K H v d → DeAll K H vs ds → DeAll K H (v :: vs) (d :: ds)
end
section
variable {X : Cx} {pins : List (Addr × Obj)} {σ : L2.St} {H : Hp} {s : Shared}
theorem sys_not {a : Addr} {o : Obj} (I : Inv X pins σ H s) (sd : PySem.W.typeIn X.K (.ref sysModules) = some (.type "dict")) (ho : s.heap.get? a = some o) (hc : o.cls = .type "list") : a ≠ sysModules := fun z => by
  obtain ⟨o2, h2, e2⟩ := Option.map_eq_some_iff.mp sd
  have h3 := I.kIn _ _ h2
  rw [z, h3] at ho
  obtain rfl := Option.some.inj ho
  rw [e2] at hc
  exact absurd hc (by decide)
/-- no list stands where sys.modules does -/
def NoSys (h : Heap) : Prop := ∀ (a : Addr) (o : Obj) (its : Array Value) (n : Nat), h.get? a = some o → o.cls = .type "list" → o.data = .seq its n → a ≠ sysModules
mutual
theorem De.reads (I : Inv X pins σ H s) (nl : NoSys s.heap) : ∀ (d : PyData) (v : V) (u : Value), De X.K H v d → RelV v u → ∃ as, Reads s.heap u d as ∧ sysModules ∉ as
  | .none, _, _, h, r => by
    cases h
    cases r
    exact ⟨_, Reads.none, List.not_mem_nil⟩
  | .bool b, _, _, h, r => by
    cases h
    cases r
    exact ⟨_, Reads.bool b, List.not_mem_nil⟩
  | .int i, _, _, h, r => by
    cases h
    obtain ⟨t, rfl⟩ := r
    exact ⟨_, Reads.int i t, List.not_mem_nil⟩
  | .str x, _, _, h, r => by
    cases h
    obtain ⟨t, rfl⟩ := r
    exact ⟨_, Reads.str x t, List.not_mem_nil⟩
  | .list ds, _, _, h, r => by
    cases h with
    | lst hs ha =>
      cases r
      obtain ⟨its, rv, ⟨o, n, ho, hc, _, hd⟩, _⟩ := I.list hs
      obtain ⟨as, hr, hn⟩ := De.readsAll I nl ds _ its ha rv
      exact ⟨_, Reads.list ho hc hd hr, fun z => by
        rcases List.mem_cons.mp z with z | z
        · exact nl _ _ _ _ ho hc hd z.symm
        · exact hn z⟩
  | .tuple ds, _, _, h, r => by
    cases h with
    | tup hs ha =>
      cases r
      obtain ⟨its, rv, ⟨o, ho, hc, n, hd⟩, _⟩ := I.tuple hs
      obtain ⟨as, hr, hn⟩ := De.readsAll I nl ds _ its ha rv
      exact ⟨_, Reads.tuple ho hc hd hr, hn⟩
  | .dict kvs, _, _, h, r => by
    cases h with
    | @emp a he =>
      cases r
      obtain ⟨_, hm, vs, rv, dd⟩ := dk_of I.hok he
      cases rv
      obtain ⟨o, es, n, ho, hx, hd, _, hp, _⟩ := dd
      have e0 : es.toList = [] := by
        cases h : es.toList with
        | nil => rfl
        | cons e t =>
          rw [h] at hp
          cases hp
      have hs : sysModules ∉ a :: ([] : List Addr) ++ [] := fun z => by
        have z2 : sysModules = a := by simpa using z
        rw [← z2] at hm
        simp at hm
      exact ⟨_, Reads.dict (kvs := []) ho hx.1 hd (by rw [e0]; exact .nil) (by rw [e0]; exact .nil), hs⟩
theorem De.readsAll (I : Inv X pins σ H s) (nl : NoSys s.heap) : ∀ (ds : List PyData) (vs : List V) (us : List Value), DeAll X.K H vs ds → Vals vs us → ∃ as, ReadsAll s.heap us ds as ∧ sysModules ∉ as
  | [], _, _, h, r => by
    cases h
    cases r
    exact ⟨_, ReadsAll.nil, List.not_mem_nil⟩
  | d :: ds, _, _, h, r => by
    cases h with
    | cons h1 h2 =>
      cases r with
      | cons r1 r2 =>
        obtain ⟨as, q1, n1⟩ := De.reads I nl d _ _ h1 r1
        obtain ⟨bs, q2, n2⟩ := De.readsAll I nl ds _ _ h2 r2
        exact ⟨_, ReadsAll.cons q1 q2, fun z => (List.mem_append.mp z).elim n1 n2⟩
end
/-- repr(x) -/
def rReprE (K : PySem.W.Frag) : List V → Hp → VK → Prop := fun vs H Q => ∃ (a : Addr) (d : PyData), vs = [V.ref a] ∧ De K H (.ref a) d ∧ d.showable = true ∧ d.shown.length ≤ sizeLine ∧ d.depth ≤ 60 ∧ Q (.str d.shown) H
theorem cr_reprNS (nl : ∀ pins σ H s, Inv X pins σ H s → NoSys s.heap) (gd : X.A.guards = some []) (hu : X.A.units + 65 < cLine) : CallR X (.builtin "repr") (rReprE X.K) := by
  intro pins s σ H vs us Q I r h
  obtain ⟨a, d, rfl, hd, sh, lz, dp, q⟩ := h
  rw [Vals.ref1 r]
  obtain ⟨as, rd, ns⟩ := De.reads I (nl _ _ _ _ I) _ (.ref a) _ hd rfl
  refine repr_of_reads' rd sh (fun _ => ns) gd (by omega) (fun _ _ e => e) (fun h' u tk hk => ?_) lz
  exact ⟨.str d.shown, H, I.kept (t' := tk) hk, ⟨_, rfl⟩, q⟩
theorem cr_reprE (sd : PySem.W.typeIn X.K (.ref sysModules) = some (.type "dict")) (gd : X.A.guards = some []) (hu : X.A.units + 65 < cLine) : CallR X (.builtin "repr") (rReprE X.K) := cr_reprNS (fun _ _ _ _ I _ _ _ _ ho hc _ => sys_not I sd ho hc) gd hu
end
end CG

namespace CG
-- kexcis
open PySem PySem.Spec PyProof.Rows L2
/-! ### isinstance(e, (X, Y)), e the exception that the suite holds -/
/-- what the class D must say -/
structure ExcI (K : PySem.W.Frag) (D : Addr) : Prop where
  hl : (PySem.W.clsIn K D).isSome = true
  hg : PySem.W.findIn K (.ref D) "__getattribute__" = some (some (.builtin "BaseException.__getattribute__"))
  hk : PySem.W.findIn K (.ref D) "__getattr__" = some none
  hs : PySem.W.subIn K (.ref D) (.type "BaseException") = some true
  ha : PySem.W.findIn K (.ref D) "__class__" = some (some (.builtin "object.__class__"))
  hn : PySem.W.specialIn K (.builtin "object.__class__") "__get__" = some (some (.builtin "getset_descriptor.__get__"))
  ht : PySem.W.takesIn K (.builtin "object.__class__") = some true
  hm : PySem.W.mroIn K D (.type "object") = some true
def rIsET (K : PySem.W.Frag) (cls : Value) (d : Option Addr) (D a : Addr) : List V → Hp → VK → Prop := fun xs H Q => ∃ (tp : Addr) (cs : List V) (us : List Value) (b : Bool), xs = [.ref a, .ref tp] ∧ cls = .ref D ∧ H tp = some (.tup cs) ∧ Paired ClsV cs us ∧ (∃ (dd : Addr) (fs : List (Str × V)), d = some dd ∧ H dd = some (.xd fs)) ∧ PySem.W.kitAny K (.ref D) us = some b ∧ Q (.bl b) H
theorem call_isET {X : Cx} {a D : Addr} {oe : Obj} {cls : Value} {d : Option Addr} {pn : List (Addr × Obj)} (C : ExcI X.K D) (hz : Zc cls d oe) (hf : ∃ vs, oe.data = .fields vs) : CallR (X.suite a ((a, oe) :: pn)) (.builtin "isinstance") (rIsET X.K cls d D a) := by
  intro pins s σ H xs us Q I r h
  obtain ⟨tp, cs, ws, b, rfl, ec, hT, k, ⟨dd, fs, ed, hdd⟩, e, q⟩ := h
  obtain ⟨u1, u2, rfl, r1, r2⟩ := vals2 r
  obtain rfl : u1 = Value.ref a := r1
  obtain rfl : u2 = Value.ref tp := r2
  subst ec
  subst ed
  obtain ⟨hget, _⟩ := I.pin (a, oe) (List.mem_append.mpr (.inl List.mem_cons_self))
  obtain ⟨vs, hv⟩ := hf
  have hx : ObjOk X.prog X.w H s.heap dd (.xd fs) := I.hok dd _ hdd
  obtain ⟨mA, ⟨od, hod⟩, _⟩ := (show ∃ mA, (∃ o, s.heap.get? dd = some o) ∧ True by
    obtain ⟨mA, ⟨o, es, n, h1, _⟩, _⟩ := hx
    exact ⟨mA, ⟨o, h1⟩, trivial⟩)
  have J : PySem.W.InstAt s.heap a oe D (some od) := by
    obtain ⟨oc, odi, oda, osl⟩ := oe
    obtain ⟨h1, h2⟩ := hz
    dsimp only at h1 h2 hv
    subst h1 h2 hv
    exact ⟨hget, rfl, rfl, hod⟩
  obtain ⟨_, its, rv, o, h1, h2, n, h3⟩ := (show ObjOk X.prog X.w H s.heap tp (.tup cs) from I.hok tp _ hT)
  have e3 := ClsV.all k rv
  subst e3
  obtain ⟨oc, od2, dt, sl⟩ := o
  simp only at h2 h3
  subst h2 h3
  exact PySem.W.kia_tup (PySem.W.kitx_exc C.hl C.hg C.hk C.hs C.ha C.hn C.ht C.hm) I.kIn J h1 e (fun z => nomatch z) fun tk => ⟨.bl b, H, I.tok tk, rfl, q⟩
end CG

/-! ### repr of any data -/
namespace CG
open PySem PySem.Spec PyProof.Rows L2
section
variable {X : Cx}
def rReprA (K : PySem.W.Frag) : List V → Hp → VK → Prop := fun vs H Q => ∃ (x : V) (d : PyData), vs = [x] ∧ De K H x d ∧ d.showable = true ∧ d.shown.length ≤ sizeLine ∧ d.depth ≤ 60 ∧ Q (.str d.shown) H
/-- sys.modules is a dict, from the base -/
def SysB (base : Heap) : Prop := ∃ m, base.Ns sysModules m
theorem cr_reprG (nl : ∀ pins σ H s, Inv X pins σ H s → NoSys s.heap) (gd : X.A.guards = some []) (hu : X.A.units + 65 < cLine) : CallR X (.builtin "repr") (rReprA X.K) := by
  intro pins s σ H vs us Q I r h
  obtain ⟨x, d, rfl, hd, sh, lz, dp, q⟩ := h
  have ref : ∀ a, x = .ref a → wpAny (model X.prog X.w) X.A (call (.builtin "repr") us) (EP X pins σ Q) X.xe s := fun a e => by
    subst e
    exact cr_reprNS nl gd hu pins s σ H _ us Q I r ⟨a, d, rfl, hd, sh, lz, dp, q⟩
  obtain ⟨u, rfl, ru⟩ := vals1 r
  cases hd with
  | non =>
    obtain rfl : u = Value.none := ru
    exact PySem.P.repr_of_none ⟨.str _, H, I.tok _, ⟨_, rfl⟩, q⟩
  | bl b =>
    obtain rfl : u = Value.bool b := ru
    exact PySem.P.repr_of_bool ⟨.str _, H, I.tok _, ⟨s.toks, by cases b <;> rfl⟩, q⟩
  | int i =>
    obtain ⟨t, rfl⟩ := ru
    exact PySem.P.repr_of_int (of_decide_eq_true sh) ⟨.str _, H, I.tok _, ⟨_, rfl⟩, q⟩
  | str z =>
    obtain ⟨t, rfl⟩ := ru
    have e : PyData.shown (.str z) = reprText z := PyData.shown_str z
    rw [e] at lz q
    refine PySem.P.repr_of_str (x := z) (t := t) ?_ lz
    exact ⟨.str _, H, I.tok _, ⟨_, rfl⟩, q⟩
  | lst h1 h2 => exact ref _ rfl
  | tup h1 h2 => exact ref _ rfl
  | emp h => exact ref _ rfl
theorem cr_reprA (sb : SysB X.base) (gd : X.A.guards = some []) (hu : X.A.units + 65 < cLine) : CallR X (.builtin "repr") (rReprA X.K) := cr_reprG (fun _ _ _ _ I _ _ _ _ ho _ hd z => by
  obtain ⟨_, o2, es, ep, h2, h3, _⟩ := sb
  have h4 := I.bk _ _ h2
  rw [z, h4] at ho
  obtain rfl := Option.some.inj ho
  exact nomatch h3.symm.trans hd) gd hu
end
/-! ### isinstance(e, C), e the exception that the suite holds, whatever its class -/
def rIsEG (K : PySem.W.Frag) (cls : Value) (d : Option Addr) (a : Addr) : List V → Hp → VK → Prop := fun xs H Q => ∃ (D : Addr) (c : V) (cv : Value) (b : Bool), xs = [.ref a, c] ∧ cls = .ref D ∧ ExcI K D ∧ (∃ (dd : Addr) (fs : List (Str × V)), d = some dd ∧ H dd = some (.xd fs)) ∧ (∀ u, RelV c u → u = cv) ∧ PySem.W.kitOne K (.ref D) cv = some b ∧ Q (.bl b) H
theorem call_isEG {X : Cx} {a : Addr} {oe : Obj} {cls : Value} {d : Option Addr} {pn : List (Addr × Obj)} (hz : Zc cls d oe) (hf : ∃ vs, oe.data = .fields vs) : CallR (X.suite a ((a, oe) :: pn)) (.builtin "isinstance") (rIsEG X.K cls d a) := by
  intro pins s σ H xs us Q I r h
  obtain ⟨D, c, cv, b, rfl, ec, C, ⟨dd, fs, ed, hdd⟩, hcv, e, q⟩ := h
  obtain ⟨u1, u2, rfl, r1, r2⟩ := vals2 r
  obtain rfl : u1 = Value.ref a := r1
  obtain rfl := hcv _ r2
  subst ec
  subst ed
  obtain ⟨hget, _⟩ := I.pin (a, oe) (List.mem_append.mpr (.inl List.mem_cons_self))
  obtain ⟨vs, hv⟩ := hf
  have hx : ObjOk X.prog X.w H s.heap dd (.xd fs) := I.hok dd _ hdd
  obtain ⟨od, hod⟩ := (show ∃ o, s.heap.get? dd = some o by
    obtain ⟨mA, ⟨o, es, n, h1, _⟩, _⟩ := hx
    exact ⟨o, h1⟩)
  have J : PySem.W.InstAt s.heap a oe D (some od) := by
    obtain ⟨oc, odi, oda, osl⟩ := oe
    obtain ⟨h1, h2⟩ := hz
    dsimp only at h1 h2 hv
    subst h1 h2 hv
    exact ⟨hget, rfl, rfl, hod⟩
  exact PySem.W.kia_one (PySem.W.kitx_exc C.hl C.hg C.hk C.hs C.ha C.hn C.ht C.hm) I.kIn J e (fun z => nomatch z) fun tk => ⟨.bl b, H, I.tok tk, rfl, q⟩
theorem kit1 {K : PySem.W.Frag} {t c : Value} {b : Bool} (h : PySem.W.kitAny K t [c] = some b) : PySem.W.kitOne K t c = some b := by
  unfold PySem.W.kitAny at h
  split at h
  · rename_i e
    rw [e, h]
  · rename_i e
    rw [e]
    exact h
  · cases h
theorem rel_cls {C : Addr} : ∀ u, RelV (.ref C) u → u = Value.ref C := fun _ h => h
theorem rel_ty {s : String} : ∀ u, RelV (.ty s) u → u = Value.type s := fun _ h => h
end CG

-- lambdas
/-! ### lambdas without parameters as values -/
namespace CG
open PySem PySem.Spec PyProof.Rows L2
/-- what such a lambda is made of -/
structure LF where
  qual : Str
  params : Arguments
  body : Expr
  scope : Scope
  cl : List (Str × Addr)
  c : Addr
abbrev LF.ob (L : LF) (pm ctv : Value) : Obj := PySem.W.kla_obj "<lambda>" L.qual L.params L.body L.scope L.cl pm L.c ctv
/-- the object at f is the lambda L -/
def LamO (f : Addr) (L : LF) : HO := .ext fun h => ∃ pm ctv : Value, h.get? f = some (L.ob pm ctv)
theorem lamO_tbl {f : Addr} {L : LF} (ps : Array Value) : LamO f L ≠ .tbl ps := fun z => HO.noConfusion (show HO.ext _ = HO.tbl ps from z)
abbrev lname (X : Cx) : Str := X.env.qual ++ "<lambda>"
abbrev lfOf (X : Cx) (params : Arguments) (body : Expr) (scope : Scope) (c' : Addr) : LF := ⟨lname X, params, body, scope, cloFrom X.env.cells scope.names [], c'⟩
section
variable {X : Cx} {pins : List (Addr × Obj)} {σ : L2.St} {H : Hp} {s : Shared} {params : Arguments} {body : Expr} {scope : Scope}
/-- a lambda's object, just pushed, is known from now on -/
theorem lam_pushed {L : LF} {pm ctv : Value} {tk : Nat} (I : Inv X pins σ H s) : Inv X pins σ (upd H s.heap.objs.size (LamO s.heap.objs.size L)) { s with heap := s.heap.push (L.ob pm ctv), toks := tk } := by
  have here : (s.heap.push (L.ob pm ctv)).get? s.heap.objs.size = some (L.ob pm ctv) := Heap.get?_push_size _ rfl
  exact I.laid (fun b u q => Heap.get?_push_of_some _ q) (Nat.le_refl _) ⟨⟨pm, ctv, here⟩, ⟨_, here⟩, fun g1 g2 ⟨p, c, z⟩ keep => ⟨p, c, keep _ z⟩⟩
/-- the lambda is made -/
theorem lam_new {T : List (Addr × Str)} {c P : Addr} {pos : Pos} {E : Value → Shared → Prop} {Q : Value → Shared → Prop} (I : Inv X pins σ H s) (TB : LamX.TabB X.base X.mg c P) (hcode : X.env.code = .ref c)
    (hm : (P, lname X) ∈ T) (one : ∀ p ∈ T, p.1 = P → p.2 = lname X) (tabs : LamX.Tabs T H) (hdef : defaultsOf params X.env = ([], [])) (has : ∀ y ∈ scope.names, y.2 = .free → ∃ c, X.env.cells.lookup y.1 = some c)
    (k : ∀ (f c' : Addr) (G : Hp) (s' : Shared), Inv X pins σ G s' → LamX.ExtN H G → LamX.Tabs T G → H f = none → G f = some (LamO f (lfOf X params body scope c')) → G c' = some (LamX.CodeO c' (lname X)) → Q (.ref f) s') :
    wpAny (model X.prog X.w) X.A (eval (.Lambda params body scope pos) X.env) Q E s := by
  obtain ⟨ps, atP, trip, told⟩ := tabs _ hm
  have blt : s.heap.BuiltinsAt X.mg P := TB.bm.keeps I.bk
  have objP : s.heap.get? P = some { cls := .none, data := .fields ps } := I.hok P _ atP
  have hd := TB.code.keeps I.bk
  refine PySem.W.kla_eval hdef ?_
  match found : codeAmong pos ps.toList with
  | some cv =>
    obtain ⟨c', rfl, known⟩ := told pos cv found
    refine PySem.W.kla_makeFunctionHit (mg := X.mg) (c := c) (P := P) (ps := ps) (closure_ok has) I.ok.glob (I.mod.glob.keeps I.bk) hcode hd objP trip found blt fun ctv h' tk grown _ => ?_
    have J : Inv X pins σ H { s with heap := h', toks := tk } := I.kept grown
    have none1 : H h'.objs.size = none := J.hok.fresh (Nat.le_refl _)
    refine k h'.objs.size c' _ _ (lam_pushed (L := lfOf X params body scope c') (tk := tk) (pm := (X.mg "__name__").getD .none) (ctv := ctv) J) (fun b o e _ => ?_) (tabs.ext fun b o e => ?_) none1 upd_same ?_
    · rw [upd_ne (ne_of_none e none1)]
      exact e
    · rw [upd_ne (ne_of_none e none1)]
      exact e
    · rw [upd_ne (ne_of_none known none1)]
      exact known
  | none =>
    refine PySem.W.kla_makeFunction (mg := X.mg) (c := c) (P := P) (ps := ps) (closure_ok has) I.ok.glob (I.mod.glob.keeps I.bk) hcode hd objP trip found TB.gP blt fun c' ctv h' tk butP ge lt rec tabP => ?_
    obtain ⟨c2, oc, vs, t, e2, hoc, hdc, hv⟩ := rec
    obtain rfl := Value.ref.inj e2
    have none0 : H c' = none := I.hok.fresh ge
    have J := LamX.inv_table (t' := tk) (more := #[rawInt pos.line, rawInt pos.col, .ref c']) (h' := h') I atP (fun b o n e => butP b o n e) tabP ge ⟨oc, vs, t, hoc, hdc, hv⟩
    generalize hG : upd (upd H P (.tbl (ps ++ #[rawInt pos.line, rawInt pos.col, .ref c']))) c' (LamX.CodeO c' (lname X)) = G at J
    have nPc : P ≠ c' := ne_of_none atP none0
    have gP : G P = some (.tbl (ps ++ #[rawInt pos.line, rawInt pos.col, .ref c'])) := by rw [← hG, upd_ne nPc, upd_same]
    have gc : G c' = some (LamX.CodeO c' (lname X)) := by rw [← hG, upd_same]
    have gO : ∀ b o, b ≠ P → H b = some o → G b = some o := fun b o n e => by rw [← hG, upd_ne (ne_of_none e none0), upd_ne n]; exact e
    have gX : LamX.ExtN H G := fun b o e n => gO b o (fun z => n ps (Option.some.inj (e.symm.trans (by rw [z]; exact atP)))) e
    have eL : (ps ++ #[rawInt pos.line, rawInt pos.col, .ref c']).toList = ps.toList ++ [rawInt pos.line, rawInt pos.col, .ref c'] := by simp
    have tG : LamX.Tabs T G := fun p hp => by
      by_cases hb : p.1 = P
      · rw [one p hp hb, hb]
        refine ⟨_, gP, by rw [eL]; exact PySem.TriplesOk_snoc _ _ _ _ trip, fun p' cv hcv => ?_⟩
        rw [eL] at hcv
        rcases LamX.among_app _ trip hcv with z | z
        · obtain ⟨c0, a1, a2⟩ := told p' cv z
          exact ⟨c0, a1, gX _ _ a2 LamX.codeO_ne⟩
        · exact ⟨c', z, gc⟩
      · obtain ⟨us, a1, a2, a3⟩ := tabs p hp
        refine ⟨us, gO _ _ hb a1, a2, fun p' cv hcv => ?_⟩
        obtain ⟨c0, b1, b2⟩ := a3 p' cv hcv
        exact ⟨c0, b1, gX _ _ b2 LamX.codeO_ne⟩
    have none1 : G h'.objs.size = none := J.hok.fresh (Nat.le_refl _)
    have none2 : H h'.objs.size = none := I.hok.fresh (Nat.le_trans ge (Nat.le_of_lt lt))
    refine k h'.objs.size c' _ _ (lam_pushed (L := lfOf X params body scope c') (tk := tk) (pm := (X.mg "__name__").getD .none) (ctv := ctv) J) (fun b o e n => ?_) (tG.ext fun b o e => ?_) none2 upd_same ?_
    · have z := gX b o e n
      rw [upd_ne (ne_of_none z none1)]
      exact z
    · rw [upd_ne (ne_of_none e none1)]
      exact e
    · rw [upd_ne (ne_of_none gc none1)]
      exact gc
end
/-- the reading of a lambda: a new object -/
def tLamV (T : List (Addr × Str)) (mk : Addr → LF) : TE := fun _ H Q => LamX.Tabs T H ∧ ∀ (f c' : Addr) (G : Hp), LamX.ExtN H G → LamX.Tabs T G → H f = none → G f = some (LamO f (mk c')) → G c' = some (LamX.CodeO c' (mk c').qual) → Q (.ref f) G
theorem pe_lam {X : Cx} {T : List (Addr × Str)} {c P : Addr} {params : Arguments} {body : Expr} {scope : Scope} {pos : Pos} (TB : LamX.TabB X.base X.mg c P) (hcode : X.env.code = .ref c) (hm : (P, lname X) ∈ T) (one : ∀ p ∈ T, p.1 = P → p.2 = lname X)
    (L : LamX.LamS X.env.scope scope) (hdef : defaultsOf params X.env = ([], [])) : PE X (.Lambda params body scope pos) (tLamV T (lfOf X params body scope)) :=
  ⟨fun pins s σ H Q I ⟨tabs, h⟩ => lam_new I TB hcode hm one tabs hdef (L.has I.ok) fun f c' G s' J eN tG n1 a1 a2 => ⟨.ref f, G, J, rfl, h f c' G eN tG n1 a1 a2⟩⟩
/-- x(), in a def that was entered from the maker's frame X at s -/
theorem pe_act {X : Cx} {pins : List (Addr × Obj)} {σ : L2.St} {H : Hp} {s : Shared} {CXg : CXT} {Eg : XK} {Ng : List Str} {qg : Str} {sg : Scope} {g f c' : Addr} {cdg : Value} {params : Arguments} {body : Expr} {scope : Scope} {k i : Nat} {a : Str} {pn : List (Addr × Obj)}
    {xe : Value → Shared → Prop} {W : WX} {tb : XK → TE} {p1 p2 : Pos} (I : Inv X pins σ H s) (L : LamX.LamS X.env.scope scope)
    (bind : ∀ pm ctv : Value, bindArgs (PySem.W.kla_fn "<lambda>" (lname X) params body scope (cloFrom X.env.cells scope.names []) pm (.ref c') ctv) ⟨[], []⟩ = pure [])
    (tk : Takes ((cxOf CXg X.prog X.w X.K X.mg X.base Ng qg sg g cdg X.A X.stack s H Eg).tr pn xe) W) (room : Room (k + 1) (X.A.deeper (envOfC qg sg s.heap.objs.size g cdg)))
    (hbody : ∀ (A : Around) (outer : List Env) (s : Shared) (H : Hp) (E : XK), Room k (A.deeper (LamX.lamEnv X scope s.heap.objs.size f c')) → PE (LamX.lamCx X A outer s H E scope f c') body (tb E))
    (hN : Ng[i]? = some a) (hv : Vis sg a) (hd : (a == ("__debug__" : Str)) = false := by decide) (hcd : (a == ("__classdict__" : Str)) = false := by decide) :
    PE ((cxOf CXg X.prog X.w X.K X.mg X.base Ng qg sg g cdg X.A X.stack s H Eg).tr pn xe) (.Call (.Name a p1) [] [] p2)
      (fun τ G Q => τ[i]? = some (some (.ref f)) ∧ G f = some (LamO f (lfOf X params body scope c')) ∧ G c' = some (LamX.CodeO c' (lname X)) ∧ ∃ Ec : XK, (∀ cls d G', Ec cls d G' → W cls d τ G') ∧ tb Ec σ G Q) := by
  refine ⟨fun pinsZ sZ τ G Q IZ ⟨slot, isL, isC, Ec, hEc, h⟩ => ?_⟩
  have look := (pe_var (pos := p1) (i := i) hN hv hd hcd).run pinsZ sZ τ G (fun v G1 => v = .ref f ∧ G1 = G) IZ ⟨.ref f, slot, rfl, rfl⟩
  refine wpAny_Call_Name_kw (thn look fun u s1 ⟨v, G1, I1, r1, ev, eG⟩ => ?_)
  subst ev
  rw [eG] at I1
  obtain rfl : u = Value.ref f := r1
  obtain ⟨⟨pm, ctv, obj⟩, _, _⟩ := I1.hok f _ isL
  refine PySem.W.callWith_F0 ⟨_, _, _, _, obj⟩ ?_
  have un : Un (frs X.stack) [] H G s.heap s1.heap := I1.base
  obtain ⟨⟨oc, vs, t, hoc, hdc, hvc⟩, _, _⟩ := I1.hok c' _ isC
  have rc : codeAny (model X.prog X.w) (X.A.deeper (envOfC qg sg s.heap.objs.size g cdg)) (.call (.ref f) ⟨[], []⟩) (CR (L2.CX X.prog X.w) (envOfC qg sg s.heap.objs.size g cdg :: X.stack) X.prog X.w G s1 Q Ec) s1 := by
    refine PySem.W.kla_callFunE room.depth obj rfl L.co L.gen rfl ⟨c', oc, vs, t, rfl, hoc, hdc, hvc⟩ ?_
    rw [bind]
    refine wpAny_pure (wpAny_newFunctionEnv (fun y hy => (L.own y hy).2) (fun y hy => absurd hy List.not_mem_nil) (fun h₁ hns hsb => ⟨I1.nolimit.fresh _ hsb, ?_⟩) L.kind)
    show codeAny _ _ (.expr body (LamX.lamEnv X scope s1.heap.objs.size f c')) _ _
    have kept : ∀ b o, s1.heap.get? b = some o → h₁.get? b = some o := fun b o e => hsb.extBut b o (Nat.ne_of_lt (Heap.lt_size e)) (Heap.get?_push_of_some _ e)
    have J := LamX.lam_start2 (A := X.A.deeper (envOfC qg sg s.heap.objs.size g cdg)) (outer := envOfC qg sg s.heap.objs.size g cdg :: X.stack) (E := Ec) (f := f) (c' := c') (tk := s1.toks + ([] : List (Str × Value)).length) I L I1.env0 room.hd un hns kept
    refine PySem.W.kla_codeExpr (wpAny_mono ((hbody _ _ s1 G Ec (room.deeper _)).run [] _ _ G Q J h) (fun v s' out => ?_) fun e s' out => out)
    obtain ⟨v', G', J', rv, q⟩ := out
    exact ⟨v', G', J'.os, J'.bare, J'.base, J'.hok, rv, q⟩
  refine wpAny_call (codeAny_mono rc fun out s' q => ?_)
  match out, q with
  | .error e, q => exact tk e s' (XE.of_call I1 hEc q)
  | .ok (.ret u), q => exact I1.after q
/-- what a def makes of the lambda that it got: a calls it; Rd: that the lambda is there; tl: the lambda's reading -/
def Gives (P : Program) (w : World) (K : PySem.W.Frag) (mg : Str → Option Value) (base : Heap) (k : Nat) (Ng : List Str) (x a : Str) (st : Stmt) (g : Addr) (TT : (XK → Hp → VK → Prop) → Hp → VK → Prop) : Prop :=
  ∀ (A : Around) (outer : List Env) (cdg : Value) (f : Addr) (s : Shared) (H : Hp) (Q : VK) (Rd : Hp → Prop) (tl : XK → Hp → VK → Prop), A.guards = some [] → Room k (A.deeper (envOfC x (defScope st) s.heap.objs.size g cdg)) →
    (∀ (W : WX) (pn : List (Addr × Obj)) (xe : Value → Shared → Prop) (p1 p2 : Pos), Takes ((cxOf CX0 P w K mg base Ng x (defScope st) g cdg A outer s H fun _ _ _ => False).nox.tr pn xe) W →
      PE ((cxOf CX0 P w K mg base Ng x (defScope st) g cdg A outer s H fun _ _ _ => False).nox.tr pn xe) (.Call (.Name a p1) [] [] p2) (fun τ G Q => τ[0]? = some (some (.ref f)) ∧ Rd G ∧ ∃ Ec : XK, (∀ cls d G', Ec cls d G' → W cls d τ G') ∧ tl Ec G Q)) →
    Rd H → TT tl H Q → ∃ t, PSs (cxOf CX0 P w K mg base Ng x (defScope st) g cdg A outer s H fun _ _ _ => False).nox (defBody st) t ∧ t { nx := fun _ H' => Q .non H', rt := Q } (start Ng [.ref f]) H
/-- the reading of x(e), e one of some lambdas of this very frame -/
def tSaid (X : Cx) {ι : Type} (pa : ι → Arguments) (bo : ι → Expr) (sc : ι → Scope) (tb : ι → XK → TE) (TT : (XK → Hp → VK → Prop) → Hp → VK → Prop) (te : TE) : TE := fun σ H Q => te σ H fun v H1 =>
  ∃ (i : ι) (f c' : Addr), [v] = [V.ref f] ∧ H1 f = some (LamO f (lfOf X (pa i) (bo i) (sc i) c')) ∧ H1 c' = some (LamX.CodeO c' (lname X)) ∧ TT (fun E G R => tb i E σ G R) H1 Q
/-- x(e), e one of some lambdas of this very frame -/
theorem pe_said {X : Cx} {ι : Type} {pa : ι → Arguments} {bo : ι → Expr} {sc : ι → Scope} {tb : ι → XK → TE} {x a : Str} {st : Stmt} {g : Addr} {fd : FuncData} {Ng : List Str} {k : Nat} {TT : (XK → Hp → VK → Prop) → Hp → VK → Prop} {e : Expr} {te : TE} {p pos : Pos}
    (F : Fun X.K x x st g fd) (b : Binds X.K fd [a] []) (S : FnScope Ng [a] (defScope st)) (hg : Gl X x) (hm : X.mg x = some (.ref g)) (n0 : Ng[0]? = some a) (va : Vis (defScope st) a) (gives : Gives X.prog X.w X.K X.mg X.base k Ng x a st g TT) (gd : X.A.guards = some []) (room : Room (k + 2) X.A)
    (lam : ∀ i, LamX.LamS X.env.scope (sc i)) (bind : ∀ (i : ι) (q : Str) (cl : List (Str × Addr)) (pm cv ctv : Value), bindArgs (PySem.W.kla_fn "<lambda>" q (pa i) (bo i) (sc i) cl pm cv ctv) ⟨[], []⟩ = pure [])
    (hbody : ∀ (i : ι) (A : Around) (outer : List Env) (s : Shared) (H : Hp) (E : XK) (f c' : Addr), Room k (A.deeper (LamX.lamEnv X (sc i) s.heap.objs.size f c')) → PE (LamX.lamCx X A outer s H E (sc i) f c') (bo i) (tb i E))
    (he : PE X e te) (hdb : (x == ("__debug__" : Str)) = false := by decide) (hd : (a == ("__debug__" : Str)) = false := by decide) (hcd : (a == ("__classdict__" : Str)) = false := by decide)
    (hst : starEach [e] X.env = (false, eval e X.env) :: starEach [] X.env := by rfl) (hpl : (backTo pos (starEach [] X.env)).any (·.1) = false := by rfl) :
    PE X (.Call (.Name x p) [e] [] pos) (tSaid X pa bo sc tb TT te) := by
  refine ⟨fun pins s σ H Q I h => ?_⟩
  obtain ⟨oc, od, kV, doc, pm, an, cdv, ct, osl, rfl, lk, hcd0⟩ := F.ex
  have arg : PA X [e] (tCons te tNil) := pa_cons (hs := hst) he pa_nil
  have h2 : tCons te tNil σ H (fun vs H1 => ∃ (i : ι) (f c' : Addr), vs = [.ref f] ∧ H1 f = some (LamO f (lfOf X (pa i) (bo i) (sc i) c')) ∧ H1 c' = some (LamX.CodeO c' (lname X)) ∧ TT (fun E G R => tb i E σ G R) H1 Q) := h
  refine wpAny_Call_Name_kw (ld_glob I hg hm (PySem.W.callWith_K (h₀ := X.base) I.ok.mod.kin F.kp (thn (arg.run pos pins s σ H _ I h2) fun us s1 hh => ?_) hst hpl) hdb)
  obtain ⟨vs, H1, I1, r, i, f, c', rfl, isL, isC, tt⟩ := hh
  rw [Vals.ref1 r]
  refine ⟨I1.kIn, ?_⟩
  have rc : codeAny (model X.prog X.w) X.A (.call (.ref g) ⟨[.ref f], []⟩) (CR CX0 X.stack X.prog X.w H1 s1 Q fun _ _ _ => False) s1 := by
    refine LamX.run_ofS (k := k + 1) (N := Ng) (ps := [a]) (us := [.ref f]) (vs := [.ref f]) lk hcd0 S room I1.env0 (b s1 [.ref f] I1.kIn rfl) (.cons rfl .nil) rfl fun inner => ?_
    obtain ⟨t, ht, q⟩ := gives X.A X.stack cdv f s1 H1 Q (fun G => G f = some (LamO f (lfOf X (pa i) (bo i) (sc i) c')) ∧ G c' = some (LamX.CodeO c' (lname X))) (fun E G R => tb i E σ G R) gd (inner.mono (Nat.le_succ k))
      (fun W pn xe p1 p2 tk => ⟨fun pins s τ G R J z => (pe_act (CXg := CX0) (Eg := fun _ _ _ => False) (i := 0) I1 (lam i) (fun pm ctv => bind i _ _ _ _ _) tk inner (fun A outer s H E => hbody i A outer s H E f c') n0 va hd hcd).run pins s τ G R J ⟨z.1, z.2.1.1, z.2.1.2, z.2.2⟩⟩) ⟨isL, isC⟩ tt
    exact ⟨t, ht.nox, q⟩
  refine wpAny_call (codeAny_mono rc fun out s2 q => ?_)
  match out, q with
  | .error err, q => exact (show False from q).elim
  | .ok (.ret u), q => exact I1.after q
/-- the reading of x(lambda: ..): the table of code objects at P -/
def tSaid1 (X : Cx) (P : Addr) (tb : XK → TE) (TT : (XK → Hp → VK → Prop) → Hp → VK → Prop) : TE := fun σ H Q =>
  LamX.Tabs [(P, lname X)] H ∧ ∀ G, LamX.ExtN H G → LamX.Tabs [(P, lname X)] G → TT (fun E G R => tb E σ G R) G Q
/-- x(lambda: ..) -/
theorem pe_said1 {X : Cx} {tb : XK → TE} {x a : Str} {st : Stmt} {g c P : Addr} {fd : FuncData} {Ng : List Str} {k : Nat} {TT : (XK → Hp → VK → Prop) → Hp → VK → Prop} {params : Arguments} {body : Expr} {scope : Scope} {p lpos pos : Pos}
    (F : Fun X.K x x st g fd) (b : Binds X.K fd [a] []) (S : FnScope Ng [a] (defScope st)) (hg : Gl X x) (hm : X.mg x = some (.ref g)) (n0 : Ng[0]? = some a) (va : Vis (defScope st) a) (gives : Gives X.prog X.w X.K X.mg X.base k Ng x a st g TT) (gd : X.A.guards = some []) (room : Room (k + 2) X.A)
    (TB : LamX.TabB X.base X.mg c P) (hcode : X.env.code = .ref c)
    (hbody : ∀ (A : Around) (outer : List Env) (s : Shared) (H : Hp) (E : XK) (f c' : Addr), Room k (A.deeper (LamX.lamEnv X scope s.heap.objs.size f c')) → PE (LamX.lamCx X A outer s H E scope f c') body (tb E))
    (lam : LamX.LamS X.env.scope scope) (hdef : defaultsOf params X.env = ([], []) := by rfl) (bind : ∀ (q : Str) (cl : List (Str × Addr)) (pm cv ctv : Value), bindArgs (PySem.W.kla_fn "<lambda>" q params body scope cl pm cv ctv) ⟨[], []⟩ = pure [] := by intros; rfl)
    (hdb : (x == ("__debug__" : Str)) = false := by decide) (hd : (a == ("__debug__" : Str)) = false := by decide) (hcd : (a == ("__classdict__" : Str)) = false := by decide)
    (hst : starEach [Expr.Lambda params body scope lpos] X.env = (false, eval (Expr.Lambda params body scope lpos) X.env) :: starEach [] X.env := by rfl) (hpl : (backTo pos (starEach [] X.env)).any (·.1) = false := by rfl) :
    PE X (.Call (.Name x p) [.Lambda params body scope lpos] [] pos) (tSaid1 X P tb TT) := by
  have he : PE X (.Lambda params body scope lpos) (tLamV [(P, lname X)] (lfOf X params body scope)) := pe_lam TB hcode (List.mem_singleton.mpr rfl) (fun p hp _ => by rw [List.mem_singleton.mp hp]) lam hdef
  refine ⟨fun pins s σ H Q I h => ?_⟩
  refine (pe_said (ι := Unit) (pa := fun _ => params) (bo := fun _ => body) (sc := fun _ => scope) (tb := fun _ => tb) (TT := TT) F b S hg hm n0 va gives gd room (fun _ => lam) (fun _ => bind) (fun _ => hbody) he hdb hd hcd hst hpl).run pins s σ H Q I ?_
  exact ⟨h.1, fun f c' G eN tG _ a1 a2 => ⟨(), f, c', rfl, a1, a2, h.2 G eN tG⟩⟩
end CG

/-! ### defs that make lambdas, and the end where they stand -/
namespace CG
open PySem PySem.Spec PyProof.Rows L2
section
variable {P : Program} {w : World} {K : PySem.W.Frag} {mg : Str → Option Value} {base : Heap}
/-- a def by its body, where nothing is being printed and its code object is known -/
theorem okGT {x qual : Str} {st : Stmt} {f c : Addr} {fd : FuncData} {N ps : List Str} {k : Nat} {sp : Sp} (F : Fun K x qual st f fd) (at_c : fd.code = .ref c) (S : FnScope N ps (defScope st)) (len : ∀ vs H Q E, sp vs H Q E → vs.length = ps.length)
    (body : ∀ (A : Around) (fr : List Env) (s : Shared) (H : Hp) (vs : List V) (Q : VK) (E : XK), A.guards = some [] → Room k (A.deeper (envOfC qual (defScope st) s.heap.objs.size f (.ref c))) → sp vs H Q E →
      ∃ t, PSs (cxOf CX0 P w K mg base N qual (defScope st) f (.ref c) A fr s H E).nox (defBody st) t ∧ t { nx := fun _ H' => Q .non H', rt := Q } (start N vs) H) : FnOkG P w K mg base (k + 1) f fd ps sp := by
  obtain ⟨o1, o2, d1, d2, d3, o3, cd, ct, o4, rfl, look, code⟩ := F.ex
  obtain rfl : cd = .ref c := at_c
  refine ⟨len, fun A fr s H as us vs Q E gd room en bind rel want => ?_⟩
  have kin : K.In s.heap := en.mod.kin.keeps fun b o e => (en.bs b o e).1
  have lim := en.mod.nolimit.keeps fun b o e => (en.bs b o e).1
  have kinds : ∀ y ∈ ps.zip us, (defScope st).names.lookup y.1 = some .local ∨ ((defScope st).names.lookup y.1 = some .cell ∧ ((cellsFrom (s.heap.objs.size + 1) (defScope st).names []).lookup y.1).isSome = true) := fun ⟨n, v⟩ hy =>
    (S.par n (List.of_mem_zip hy).1).imp id fun q => ⟨q, PySem.W.cellsFrom_some _ _ _ (.inl q)⟩
  refine codeAny_call_function room.depth (kin _ _ look) rfl S.co S.gen rfl (PySem.W.codeRec_of kin code) (bind _ _ _ _ ?_)
  refine wpAny_newFunctionEnv_cells S.kind kinds fun env isEnv s1 entry => ?_
  subst isEnv
  refine ⟨lim.keeps entry.toInCall.keep, codeAny_func ?_⟩
  obtain ⟨t, rule, reading⟩ := body A fr s H vs Q E gd (room.deeper _) want
  have begins := inv_start (CX := CX0) (E := E) S room.hd en (len _ _ _ _ want) rel entry
  refine wpAny_mono (rule.nox.run [] s1 (start N vs) H _ begins reading) (fun fl s' out => ?_) fun e s' out => out
  match fl, out with
  | .ret u, ⟨v, _, H', J, rv, q⟩ => exact ⟨v, H', J.os, J.bare, J.base, J.hok, rv, q⟩
  | .next, ⟨_, H', J, q⟩ => exact ⟨V.non, H', J.os, J.bare, J.base, J.hok, rfl, q⟩
  | .brk, ⟨_, _, _, q⟩ => exact q.elim
  | .cont, ⟨_, _, _, q⟩ => exact q.elim
end
/-- the code object and its empty table of the def that stands at fa -/
def TabAt (h : Heap) (mg : Str → Option Value) (x : Str) : Prop := ∃ (a : Addr) (o : Obj) (fd : FuncData) (c P : Addr), mg x = some (.ref a) ∧ h.get? a = some o ∧ o.data = .func fd ∧ fd.code = .ref c ∧ PySem.W.CodeHd h c P ∧ h.get? P = some { cls := .none, data := .fields #[] }
theorem tab_by {h : Heap} {mg : Str → Option Value} {l : List DefRec} {x : Str} (tabs : ∀ r ∈ l, TabAt h mg r.name) (m : x ∈ l.map (·.name)) : TabAt h mg x := by
  obtain ⟨r, hr, rfl⟩ := List.mem_map.mp m
  exact tabs r hr
/-- where a def's data are known, so is its code object -/
theorem TabAt.at {h : Heap} {mg : Str → Option Value} {K : PySem.W.Frag} {x qual : Str} {st : Stmt} {f : Addr} {fd : FuncData} (t : TabAt h mg x) (inK : K.In h) (m : mg x = some (.ref f)) (F : Fun K x qual st f fd) :
    ∃ c P, fd.code = .ref c ∧ PySem.W.CodeHd h c P ∧ h.get? P = some { cls := .none, data := .fields #[] } := by
  obtain ⟨a, o, fd2, c, P, m2, at_a, isF, isC, hd, tab⟩ := t
  obtain ⟨_, _, _, _, _, _, _, _, _, rfl, look, _⟩ := F.ex
  obtain rfl : f = a := Value.ref.inj (Option.some.inj (m.symm.trans m2))
  obtain rfl := Option.some.inj ((inK _ _ look).symm.trans at_a)
  obtain rfl := Data.func.inj isF
  exact ⟨c, P, isC, hd, tab⟩
/-- no table of code objects stands in the part -/
def noTab (K : PySem.W.Frag) : Bool := K.all fun p => match p.2.cls, p.2.data with
  | .none, .fields _ => false
  | _, _ => true
theorem noTab_at {K : PySem.W.Frag} {h : Heap} {P : Addr} (inK : K.In h) (n : noTab K = true) (e : h.get? P = some { cls := .none, data := .fields #[] }) : K.lookup P = none := by
  cases l : K.lookup P with
  | none => rfl
  | some o =>
    obtain rfl := Option.some.inj ((inK _ _ l).symm.trans e)
    have := List.all_eq_true.mp n (P, { cls := .none, data := .fields #[] }) (PySem.W.mem_of_lookupK l)
    exact nomatch (show false = true from this)
/-- the law at its script, from a promise of that kind, the tables of code objects known -/
theorem law_callGT {P : Program} {w : World} {K : PySem.W.Frag} {mg mb : Str → Option Value} {k : Nat} {fa a : Addr} {ts : List (Addr × Addr)} {fd : FuncData} {x : Str} {sp : Sp} {s₁ : Shared} {us : List Value} {ms : List Int}
    (inK : K.In s₁.heap) (g1 : s₁.heap.Ns mainGlobals mg) (g2 : s₁.heap.Ns builtinsNs mb) (g3 : ∀ x : Str, x ≠ "__name__" → mb x = bootBuiltins x) (g4 : s₁.heap.NoLimit) (g5 : s₁.gens = #[])
    (empty : ∀ p ∈ ts, s₁.heap.get? p.2 = some { cls := .none, data := .fields #[] }) (offK : ∀ p ∈ ts, K.lookup p.2 = none) (codes : ∀ p ∈ ts, PySem.W.CodeHd s₁.heap p.1 p.2)
    (main : ∃ (bm : Addr) (ob : Obj), mg "__builtins__" = some (.ref bm) ∧ bm ≠ builtinsNs ∧ s₁.heap.get? bm = some ob ∧ ob.cls = .type "module" ∧ ob.dict = some builtinsNs ∧ ob.data = .plain)
    (at_a : s₁.heap.get? a = some { cls := .type "list", data := .seq us.toArray }) (are : IntsAre us ms) (short : ms.length ≤ sizeLine) (room : Room k callerA)
    (F : ∀ base : Heap, K.In base → base.Ns mainGlobals mg → (∀ p ∈ ts, LamX.TabB base mg p.1 p.2) → (∀ b m, s₁.heap.Ns b m → base.Ns b m) → FnOkG P w K mg base k fa fd [x] sp) (bind : ∀ (s : Shared) (u : Value), BindsTo s fd ⟨[u], []⟩ [(x, u)])
    (want : ∀ H : Hp, (∀ p ∈ ts, H p.2 = some (.tbl #[])) → SqL K H a (ms.map V.int) → sp [.ref a] H (fun v _ => v = .bl true) fun _ _ _ => False) :
    codeAny (model P w) callerA (.call (.ref fa) ⟨[.ref a], []⟩) (fun r s' => r = .ok (.ret (.bool true)) ∧ OldK s₁.heap s'.heap ∧ s'.os = s₁.os ∧ AllBare s'.gens) s₁ := by
  have vals := vals_ints are
  have many := are.length
  let tb : List Addr := ts.map (·.2)
  have isT : ∀ b ∈ tb, s₁.heap.get? b = some { cls := .none, data := .fields #[] } := fun b hb => by
    obtain ⟨p, hp, rfl⟩ := List.mem_map.mp hb
    exact empty p hp
  have inT : ∀ p ∈ ts, p.2 ∈ tb := fun p hp => List.mem_map.mpr ⟨p, hp, rfl⟩
  have aT : a ∉ tb := fun z => by
    have q := (isT a z).symm.trans at_a
    exact nomatch (congrArg Obj.data (Option.some.inj q) : Data.fields #[] = Data.seq us.toArray _)
  have core : ∀ H : Hp, (∀ p ∈ ts, H p.2 = some (.tbl #[])) → (∀ b, H b = none ∨ b ∈ tb ∨ ∃ o xs, H b = some (.frz o (.lst xs))) → SqL K H a (ms.map V.int) → HOk P w H s₁.heap → (∀ b, H b ≠ none → b = a ∨ b ∈ tb) → (H a ≠ none → K.lookup a = none) →
      codeAny (model P w) callerA (.call (.ref fa) ⟨[.ref a], []⟩) (fun r s' => r = .ok (.ret (.bool true)) ∧ OldK s₁.heap s'.heap ∧ s'.os = s₁.os ∧ AllBare s'.gens) s₁ := by
    intro H atT only seq hok just out
    have off : ∀ {b : Addr} {o : Obj}, s₁.heap.get? b = some o → (∀ vs n, o.data ≠ .seq vs n) → o.data ≠ .fields #[] → (hidT s₁.heap H).get? b = some o := fun {b o} e n1 n2 => hidT_get e (Classical.byContradiction fun z => by
      rcases just b z with rfl | hb
      · obtain rfl := Option.some.inj (at_a.symm.trans e)
        exact n1 _ _ rfl
      · obtain rfl := Option.some.inj ((isT b hb).symm.trans e)
        exact n2 rfl)
    have dicts : ∀ {b : Addr} {o : Obj} {es : Array DictEntry} {n : Nat}, s₁.heap.get? b = some o → o.data = .dict es n → (hidT s₁.heap H).get? b = some o := fun {b o es n} e d => off e (fun vs m z => nomatch d.symm.trans z) fun z => nomatch d.symm.trans z
    have names : ∀ {b : Addr} {m : Str → Option Value}, s₁.heap.Ns b m → (hidT s₁.heap H).Ns b m := fun {b m} ⟨o, es, n, e, d, r⟩ => ⟨o, es, n, dicts e d, d, r⟩
    have inB : K.In (hidT s₁.heap H) := fun b o e => hidT_get (inK b o e) (Classical.byContradiction fun z => by
      rcases just b z with rfl | hb
      · rw [out z] at e
        cases e
      · obtain ⟨p, hp, rfl⟩ := List.mem_map.mp hb
        rw [offK p hp] at e
        cases e)
    have known : Mod K mg (hidT s₁.heap H) := ⟨inB, names g1, ⟨mb, names g2, g3⟩, g4.elim fun mc z => ⟨mc, names z.1, z.2⟩⟩
    have made : ∀ p ∈ ts, LamX.TabB (hidT s₁.heap H) mg p.1 p.2 := fun p hp => by
      have here := empty p hp
      have notG : mainGlobals ≠ p.2 := fun z => by
        obtain ⟨o, es, n, e, d, _⟩ := g1
        rw [z] at e
        obtain rfl := Option.some.inj (here.symm.trans e)
        exact nomatch d
      refine ⟨?_, ?_, notG⟩
      · obtain ⟨o, vs, fl, tf, fg, tg, nf, tx, tt, e1, r1, r2, r3, r⟩ := codes p hp
        refine ⟨o, vs, fl, tf, fg, tg, nf, tx, tt, off e1 (fun _ _ z => nomatch r2.symm.trans z) (fun z => ?_), r1, r2, r3, r⟩
        obtain rfl := Data.fields.inj (r2.symm.trans z)
        exact absurd r3 (by simp)
      · obtain ⟨bm, ob, b1, b2, b3, b4, b5, b6⟩ := main
        refine ⟨bm, ob, b1, b2, fun z => ?_, fun z => ?_, off b3 (fun _ _ z => nomatch b6.symm.trans z) (fun z => nomatch b6.symm.trans z), b4, b5, b6⟩
        · obtain ⟨o, es, n, e, d, _⟩ := g1
          rw [z] at b3
          obtain rfl := Option.some.inj (b3.symm.trans e)
          exact nomatch b6.symm.trans d
        · rw [z] at b3
          obtain rfl := Option.some.inj (b3.symm.trans here)
          exact nomatch b6
    have entry : Env0 P w K mg (hidT s₁.heap H) callerA [] s₁ H := ⟨rfl, known, fun b o e => of_hidT e, Nat.le_of_eq (hidT_size _ _), trivial, fun b z => (List.not_mem_nil z).elim, hok, .of_eq g5⟩
    refine codeAny_mono ((F _ inB (names g1) made fun _ _ => names).go callerA [] s₁ H ⟨[.ref a], []⟩ [.ref a] [.ref a] _ _ rfl room entry (bind s₁ (.ref a)) (.cons rfl .nil) (want H atT seq)) fun r s' h => ?_
    match r, h with
    | .ok (.ret u), ⟨v, H', os, bare, un, hok', rel, (q : v = .bl true)⟩ =>
      subst q
      obtain rfl : u = Value.bool true := rel
      have stays : ∀ b o, b ∉ tb → s₁.heap.get? b = some o → s'.heap.get? b = some o := fun b o nb e => by
        rcases only b with z | z | ⟨ob, xs, z⟩
        · exact un.keep b o e z (fun m => (List.not_mem_nil m).elim) (by simp)
        · exact absurd z nb
        · have e1 := (hok b _ z).1
          have e2 := (hok' b _ (un.frzs b ob _ z)).1
          obtain rfl := Option.some.inj (e.symm.trans e1)
          exact e2
      have grown : ∀ p ∈ ts, ∃ more : Array Value, s'.heap.get? p.2 = some { cls := .none, data := .fields more } := fun p hp => by
        obtain ⟨more, z⟩ := un.tbls p.2 #[] (atT p hp)
        exact ⟨_, hok' p.2 _ z⟩
      refine ⟨rfl, ⟨fun b o e => ?_, fun b o e => ?_⟩, os, bare⟩
      · rcases Classical.em (b ∈ tb) with hb | hb
        · obtain ⟨p, hp, rfl⟩ := List.mem_map.mp hb
          obtain ⟨more, hm⟩ := grown p hp
          obtain rfl := Option.some.inj ((empty p hp).symm.trans e)
          exact .inr (.inl ⟨((codes p hp).tab (empty p hp)).isCodeTable, rfl, #[], more, rfl, by rw [Array.empty_append]; exact hm⟩)
        · exact .inl (stays b o hb e)
      · rcases Classical.em (b ∈ tb) with hb | hb
        · obtain ⟨p, hp, rfl⟩ := List.mem_map.mp hb
          obtain ⟨more, hm⟩ := grown p hp
          exact ⟨_, hm⟩
        · exact ⟨o, stays b o hb e⟩
  cases look : K.lookup a with
  | some o =>
    obtain rfl := Option.some.inj (at_a.symm.trans (inK a o look))
    let G : Hp := fun b => if b ∈ tb then some (.tbl #[]) else none
    have gT : ∀ b ∈ tb, G b = some (.tbl #[]) := fun b hb => if_pos hb
    have gN : ∀ b, b ∉ tb → G b = none := fun b hb => if_neg hb
    refine core G (fun p hp => gT _ (inT p hp)) (fun b => ?_) (.inr ⟨_, us.toArray, _, look, rfl, rfl, rfl, by simpa [many] using short, by simpa using vals⟩) (fun b u z => ?_) (fun b z => .inr (Classical.byContradiction fun n => z (gN b n))) fun z => (z (gN a aT)).elim
    · exact (Classical.em (b ∈ tb)).elim (fun h => .inr (.inl h)) fun h => .inl (gN b h)
    · rcases Classical.em (b ∈ tb) with h | h
      · obtain rfl := Option.some.inj ((gT b h).symm.trans z)
        exact isT b h
      · exact absurd ((gN b h).symm.trans z) (fun e => nomatch e)
  | none =>
    let O : Obj := { cls := .type "list", data := .seq us.toArray }
    let G : Hp := fun b => if b = a then some (.frz O (.lst (ms.map V.int))) else if b ∈ tb then some (.tbl #[]) else none
    have gA : G a = some (.frz O (.lst (ms.map V.int))) := if_pos rfl
    have gT : ∀ b ∈ tb, G b = some (.tbl #[]) := fun b hb => (if_neg (fun z : b = a => aT (z ▸ hb))).trans (if_pos hb)
    have gN : ∀ b, b ≠ a → b ∉ tb → G b = none := fun b n hb => (if_neg n).trans (if_neg hb)
    refine core G (fun p hp => gT _ (inT p hp)) (fun b => ?_) (.inl (.inr ⟨O, gA⟩)) (fun b u z => ?_) (fun b z => ?_) fun _ => look
    · rcases Decidable.em (b = a) with rfl | n
      · exact .inr (.inr ⟨_, _, gA⟩)
      · exact (Classical.em (b ∈ tb)).elim (fun h => .inr (.inl h)) fun h => .inl (gN b n h)
    · rcases Decidable.em (b = a) with rfl | n
      · obtain rfl := Option.some.inj (gA.symm.trans z)
        exact ⟨at_a, by rw [List.length_map]; exact short, us, _, vals, at_a⟩
      · rcases Classical.em (b ∈ tb) with h | h
        · obtain rfl := Option.some.inj ((gT b h).symm.trans z)
          exact isT b h
        · exact absurd ((gN b n h).symm.trans z) (fun e => nomatch e)
    · rcases Decidable.em (b = a) with rfl | n
      · exact .inl rfl
      · exact .inr (Classical.byContradiction fun h => z (gN b n h))
/-- a law's end, from a promise of that kind -/
theorem walk_ofGT {l : PySem.W.OpenLaw} {n k : Nat} {q : Program} {loose : List Str} {XP : (Str → Option Value) → Heap → Prop} {YP : World → Heap → Prop} {d : DefRec} {x : Str}
    (most : l.most = some n) (small : n ≤ sizeLine) (plain : d.params.defaults = []) (room : Room k callerA)
    (F : ∀ (w : World) (mg : Str → Option Value) (fa : Addr) (h : Heap), YP w h → h.Ns mainGlobals mg → mg d.name = some (.ref fa) → (∀ r ∈ recsOf q, TabAt h mg r.name) → (importsNone q = true → h.NoSeer) →
      ∃ (K : PySem.W.Frag) (fd : FuncData) (sp : Sp) (ts : List (Addr × Addr)), K.In h ∧ (∀ p ∈ ts, h.get? p.2 = some { cls := .none, data := .fields #[] }) ∧ (∀ p ∈ ts, K.lookup p.2 = none) ∧ (∀ p ∈ ts, PySem.W.CodeHd h p.1 p.2) ∧ (∀ (s : Shared) (u : Value), BindsTo s fd ⟨[u], []⟩ [(x, u)]) ∧
        (∀ (H : Hp) (a : Addr) (ms : List Int), ms.length ≤ n → (∀ p ∈ ts, H p.2 = some (.tbl #[])) → SqL K H a (ms.map V.int) → sp [.ref a] H (fun v _ => v = .bl true) fun _ _ _ => False) ∧
        ∀ base : Heap, K.In base → base.Ns mainGlobals mg → (∀ p ∈ ts, LamX.TabB base mg p.1 p.2) → (∀ b m, h.Ns b m → base.Ns b m) → FnOkG l.prog w K mg base k fa fd [x] sp) :
    PySem.W.WalkO q loose XP YP l.row.toRowW d [] (fun f vs => PySem.call f vs) :=
  Att.attach_call most plain fun w s₀ s₁ mg mb fa o pm cd doc a us ms G Y ho hd hcd named at_a are len gens => by
    have tabs : ∀ r ∈ recsOf q, TabAt s₁.heap mg r.name := fun r hr => by
      obtain ⟨b, u, fd, c, P, m, e1, e2, e3, e4, e5⟩ := G.T.tab r hr
      refine ⟨b, u, fd, c, P, m, e1, e2, e3, PySem.W.CodeHd.of e4 e5, ?_⟩
      exact e5.2
    obtain ⟨K, fd, sp, ts, inK, t1, t2, t3, bind, want, prom⟩ := F w mg fa _ Y G.T.g named tabs G.T.seer
    exact law_callGT inK G.T.g G.T.b G.T.builtins G.T.nolimit gens t1 t2 t3 G.T.bmain at_a are (Nat.le_trans len small) room prom bind fun H atT seq => want H a ms len atT seq
end CG

/-! ### lambdas that are kept, and called later in the same frame -/
-- lambdas
namespace CG
open PySem PySem.Spec PyProof.Rows L2
/-- what a lambda of this frame makes when it is called: tb -/
def LamOk (X : Cx) (k : Nat) (pa : Arguments) (bo : Expr) (sc : Scope) (tb : XK → TE) : Prop :=
  LamX.LamS X.env.scope sc ∧ (∀ (q : Str) (cl : List (Str × Addr)) (pm cv ctv : Value), bindArgs (PySem.W.kla_fn "<lambda>" q pa bo sc cl pm cv ctv) ⟨[], []⟩ = pure []) ∧
  ∀ (A : Around) (outer : List Env) (s : Shared) (H : Hp) (E : XK) (f c' : Addr), Room k (A.deeper (LamX.lamEnv X sc s.heap.objs.size f c')) → PE (LamX.lamCx X A outer s H E sc f c') bo (tb E)
/-- the lambda of X at f: its object, its code object, what it makes -/
def LamAt (X : Cx) (k : Nat) (H : Hp) (f : Addr) (tb : XK → TE) : Prop := ∃ (pa : Arguments) (bo : Expr) (sc : Scope) (c' : Addr), H f = some (LamO f (lfOf X pa bo sc c')) ∧ H c' = some (LamX.CodeO c' (lname X)) ∧ LamOk X k pa bo sc tb
def tLamK (X : Cx) (k : Nat) (P : Addr) (tb : XK → TE) : TE := fun _ H Q => LamX.Tabs [(P, lname X)] H ∧ ∀ (f : Addr) (G : Hp), LamX.ExtN H G → LamX.Tabs [(P, lname X)] G → H f = none → LamAt X k G f tb → Q (.ref f) G
theorem pe_lamK {X : Cx} {c P : Addr} {k : Nat} {tb : XK → TE} {params : Arguments} {body : Expr} {scope : Scope} {pos : Pos} (TB : LamX.TabB X.base X.mg c P) (hcode : X.env.code = .ref c)
    (hbody : ∀ (A : Around) (outer : List Env) (s : Shared) (H : Hp) (E : XK) (f c' : Addr), Room k (A.deeper (LamX.lamEnv X scope s.heap.objs.size f c')) → PE (LamX.lamCx X A outer s H E scope f c') body (tb E))
    (lam : LamX.LamS X.env.scope scope) (hdef : defaultsOf params X.env = ([], []) := by rfl) (bind : ∀ (q : Str) (cl : List (Str × Addr)) (pm cv ctv : Value), bindArgs (PySem.W.kla_fn "<lambda>" q params body scope cl pm cv ctv) ⟨[], []⟩ = pure [] := by intros; rfl) :
    PE X (.Lambda params body scope pos) (tLamK X k P tb) := by
  refine ⟨fun pins s σ H Q I h => ?_⟩
  refine (pe_lam (T := [(P, lname X)]) TB hcode (List.mem_singleton.mpr rfl) (fun p hp _ => by rw [List.mem_singleton.mp hp]) lam hdef).run pins s σ H Q I ?_
  exact ⟨h.1, fun f c' G eN tG n a1 a2 => h.2 f G eN tG n ⟨params, body, scope, c', a1, a2, lam, bind, hbody⟩⟩
/-- X is Y in another place of the same frame -/
def SameX (X Y : Cx) : Prop := X.prog = Y.prog ∧ X.w = Y.w ∧ X.K = Y.K ∧ X.mg = Y.mg ∧ X.base = Y.base ∧ X.N = Y.N ∧ X.env = Y.env
theorem LamAt.same {X Y : Cx} {k : Nat} {H : Hp} {f : Addr} {tb : XK → TE} (e : SameX X Y) (h : LamAt Y k H f tb) : LamAt X k H f tb := by
  obtain ⟨e1, e2, e3, e4, e5, e6, e7⟩ := e
  have hl : lname X = lname Y := by unfold lname; rw [e7]
  have hf : ∀ pa bo sc c', lfOf X pa bo sc c' = lfOf Y pa bo sc c' := fun pa bo sc c' => by unfold lfOf lname; rw [e7]
  have he : ∀ sc L f c', LamX.lamEnv X sc L f c' = LamX.lamEnv Y sc L f c' := fun sc L f c' => by unfold LamX.lamEnv; rw [e7]
  have hx : ∀ A outer s H E sc f c', LamX.lamCx X A outer s H E sc f c' = LamX.lamCx Y A outer s H E sc f c' := fun A outer s H E sc f c' => by
    unfold LamX.lamCx LamX.lamEnv
    rw [e1, e2, e3, e4, e5, e6, e7]
  obtain ⟨pa, bo, sc, c', a1, a2, a3, a4, a5⟩ := h
  refine ⟨pa, bo, sc, c', by rw [hf]; exact a1, by rw [hl]; exact a2, by rw [e7]; exact a3, a4, fun A outer s H E f c' r => ?_⟩
  rw [hx]
  exact a5 A outer s H E f c' (by rw [← he]; exact r)
/-- the reading of x(e), e a lambda of this frame -/
def tSaidK (Y : Cx) (k : Nat) (TT : (XK → Hp → VK → Prop) → Hp → VK → Prop) (te : TE) : TE := fun σ H Q => te σ H fun v H1 =>
  ∃ (f : Addr) (tb : XK → TE), [v] = [V.ref f] ∧ LamAt Y k H1 f tb ∧ TT (fun E G R => tb E σ G R) H1 Q
theorem pe_saidK {X : Cx} (Y : Cx) (same : SameX X Y) {x a : Str} {st : Stmt} {g : Addr} {fd : FuncData} {Ng : List Str} {k : Nat} {TT : (XK → Hp → VK → Prop) → Hp → VK → Prop} {e : Expr} {te : TE} {p pos : Pos}
    (F : Fun X.K x x st g fd) (b : Binds X.K fd [a] []) (S : FnScope Ng [a] (defScope st)) (hg : Gl X x) (hm : X.mg x = some (.ref g)) (n0 : Ng[0]? = some a) (va : Vis (defScope st) a) (gives : Gives X.prog X.w X.K X.mg X.base k Ng x a st g TT) (gd : X.A.guards = some []) (room : Room (k + 2) X.A)
    (he : PE X e te) (hdb : (x == ("__debug__" : Str)) = false := by decide) (hd : (a == ("__debug__" : Str)) = false := by decide) (hcd : (a == ("__classdict__" : Str)) = false := by decide)
    (hst : starEach [e] X.env = (false, eval e X.env) :: starEach [] X.env := by rfl) (hpl : (backTo pos (starEach [] X.env)).any (·.1) = false := by rfl) :
    PE X (.Call (.Name x p) [e] [] pos) (tSaidK Y k TT te) := by
  refine ⟨fun pins s σ H Q I h => ?_⟩
  obtain ⟨oc, od, kV, doc, pm, an, cdv, ct, osl, rfl, lk, hcd0⟩ := F.ex
  have arg : PA X [e] (tCons te tNil) := pa_cons (hs := hst) he pa_nil
  have h2 : tCons te tNil σ H (fun vs H1 => ∃ (f : Addr) (tb : XK → TE), vs = [.ref f] ∧ LamAt Y k H1 f tb ∧ TT (fun E G R => tb E σ G R) H1 Q) := h
  refine wpAny_Call_Name_kw (ld_glob I hg hm (PySem.W.callWith_K (h₀ := X.base) I.ok.mod.kin F.kp (thn (arg.run pos pins s σ H _ I h2) fun us s1 hh => ?_) hst hpl) hdb)
  obtain ⟨vs, H1, I1, r, f, tb, rfl, la, tt⟩ := hh
  obtain ⟨pa, bo, sc, c', isL, isC, lam, bind, hbody⟩ := la.same same
  rw [Vals.ref1 r]
  refine ⟨I1.kIn, ?_⟩
  have rc : codeAny (model X.prog X.w) X.A (.call (.ref g) ⟨[.ref f], []⟩) (CR CX0 X.stack X.prog X.w H1 s1 Q fun _ _ _ => False) s1 := by
    refine LamX.run_ofS (k := k + 1) (N := Ng) (ps := [a]) (us := [.ref f]) (vs := [.ref f]) lk hcd0 S room I1.env0 (b s1 [.ref f] I1.kIn rfl) (.cons rfl .nil) rfl fun inner => ?_
    obtain ⟨t, ht, q⟩ := gives X.A X.stack cdv f s1 H1 Q (fun G => G f = some (LamO f (lfOf X pa bo sc c')) ∧ G c' = some (LamX.CodeO c' (lname X))) (fun E G R => tb E σ G R) gd (inner.mono (Nat.le_succ k))
      (fun W pn xe p1 p2 tk => ⟨fun pins s τ G R J z => (pe_act (CXg := CX0) (Eg := fun _ _ _ => False) (i := 0) I1 lam (fun pm ctv => bind _ _ _ _ _) tk inner (fun A outer s H E => hbody A outer s H E f c') n0 va hd hcd).run pins s τ G R J ⟨z.1, z.2.1.1, z.2.1.2, z.2.2⟩⟩) ⟨isL, isC⟩ tt
    exact ⟨t, ht.nox, q⟩
  refine wpAny_call (codeAny_mono rc fun out s2 q => ?_)
  match out, q with
  | .error err, q => exact (show False from q).elim
  | .ok (.ret u), q => exact I1.after q
theorem LamAt.ext {X : Cx} {k : Nat} {H G : Hp} {f : Addr} {tb : XK → TE} (h : LamAt X k H f tb) (e : LamX.ExtN H G) : LamAt X k G f tb := by
  obtain ⟨pa, bo, sc, c', a1, a2, a3⟩ := h
  exact ⟨pa, bo, sc, c', e _ _ a1 lamO_tbl, e _ _ a2 LamX.codeO_ne, a3⟩
end CG

/-! ### lambdas of several defs: their tables differ -/
-- lambdas
namespace CG
open PySem PySem.Spec PyProof.Rows L2
def tLamKT (X : Cx) (k : Nat) (T : List (Addr × Str)) (tb : XK → TE) : TE := fun _ H Q => LamX.Tabs T H ∧ ∀ (f : Addr) (G : Hp), LamX.ExtN H G → LamX.Tabs T G → H f = none → LamAt X k G f tb → Q (.ref f) G
theorem pe_lamKT {X : Cx} {T : List (Addr × Str)} {c P : Addr} {k : Nat} {tb : XK → TE} {params : Arguments} {body : Expr} {scope : Scope} {pos : Pos} (TB : LamX.TabB X.base X.mg c P) (hcode : X.env.code = .ref c) (hm : (P, lname X) ∈ T) (one : ∀ p ∈ T, p.1 = P → p.2 = lname X)
    (hbody : ∀ (A : Around) (outer : List Env) (s : Shared) (H : Hp) (E : XK) (f c' : Addr), Room k (A.deeper (LamX.lamEnv X scope s.heap.objs.size f c')) → PE (LamX.lamCx X A outer s H E scope f c') body (tb E))
    (lam : LamX.LamS X.env.scope scope) (hdef : defaultsOf params X.env = ([], []) := by rfl) (bind : ∀ (q : Str) (cl : List (Str × Addr)) (pm cv ctv : Value), bindArgs (PySem.W.kla_fn "<lambda>" q params body scope cl pm cv ctv) ⟨[], []⟩ = pure [] := by intros; rfl) :
    PE X (.Lambda params body scope pos) (tLamKT X k T tb) := by
  refine ⟨fun pins s σ H Q I h => ?_⟩
  refine (pe_lam (T := T) TB hcode hm one lam hdef).run pins s σ H Q I ?_
  exact ⟨h.1, fun f c' G eN tG n a1 a2 => h.2 f G eN tG n ⟨params, body, scope, c', a1, a2, lam, bind, hbody⟩⟩
/-- the reading of x(lambda: ..), several defs having lambdas -/
def tSaid1T (X : Cx) (T : List (Addr × Str)) (tb : XK → TE) (TT : (XK → Hp → VK → Prop) → Hp → VK → Prop) : TE := fun σ H Q =>
  LamX.Tabs T H ∧ ∀ G, LamX.ExtN H G → LamX.Tabs T G → TT (fun E G R => tb E σ G R) G Q
theorem pe_said1T {X : Cx} {T : List (Addr × Str)} {tb : XK → TE} {x a : Str} {st : Stmt} {g c P : Addr} {fd : FuncData} {Ng : List Str} {k : Nat} {TT : (XK → Hp → VK → Prop) → Hp → VK → Prop} {params : Arguments} {body : Expr} {scope : Scope} {p lpos pos : Pos}
    (F : Fun X.K x x st g fd) (b : Binds X.K fd [a] []) (S : FnScope Ng [a] (defScope st)) (hg : Gl X x) (hm : X.mg x = some (.ref g)) (n0 : Ng[0]? = some a) (va : Vis (defScope st) a) (gives : Gives X.prog X.w X.K X.mg X.base k Ng x a st g TT) (gd : X.A.guards = some []) (room : Room (k + 2) X.A)
    (TB : LamX.TabB X.base X.mg c P) (hcode : X.env.code = .ref c) (hT : (P, lname X) ∈ T) (one : ∀ p ∈ T, p.1 = P → p.2 = lname X)
    (hbody : ∀ (A : Around) (outer : List Env) (s : Shared) (H : Hp) (E : XK) (f c' : Addr), Room k (A.deeper (LamX.lamEnv X scope s.heap.objs.size f c')) → PE (LamX.lamCx X A outer s H E scope f c') body (tb E))
    (lam : LamX.LamS X.env.scope scope) (hdef : defaultsOf params X.env = ([], []) := by rfl) (bind : ∀ (q : Str) (cl : List (Str × Addr)) (pm cv ctv : Value), bindArgs (PySem.W.kla_fn "<lambda>" q params body scope cl pm cv ctv) ⟨[], []⟩ = pure [] := by intros; rfl)
    (hdb : (x == ("__debug__" : Str)) = false := by decide) (hd : (a == ("__debug__" : Str)) = false := by decide) (hcd : (a == ("__classdict__" : Str)) = false := by decide)
    (hst : starEach [Expr.Lambda params body scope lpos] X.env = (false, eval (Expr.Lambda params body scope lpos) X.env) :: starEach [] X.env := by rfl) (hpl : (backTo pos (starEach [] X.env)).any (·.1) = false := by rfl) :
    PE X (.Call (.Name x p) [.Lambda params body scope lpos] [] pos) (tSaid1T X T tb TT) := by
  have he : PE X (.Lambda params body scope lpos) (tLamV T (lfOf X params body scope)) := pe_lam TB hcode hT one lam hdef
  refine ⟨fun pins s σ H Q I h => ?_⟩
  have said := pe_said (ι := Unit) (pa := fun _ => params) (bo := fun _ => body) (sc := fun _ => scope) (tb := fun _ => tb) (TT := TT) (p := p) (pos := pos) F b S hg hm n0 va gives gd room (fun _ => lam) (fun _ => bind) (fun _ => hbody) he hdb hd hcd hst hpl
  exact said.run pins s σ H Q I ⟨h.1, fun f c' G eN tG _ a1 a2 => ⟨(), f, c', rfl, a1, a2, h.2 G eN tG⟩⟩
/-- the tables of two defs differ, as the written part tells -/
def tabsNe (K : PySem.W.Frag) (x y : Str) : Bool := match PySem.W.tabIn K x, PySem.W.tabIn K y with
  | some p, some q => p.2 != q.2
  | _, _ => false
theorem tab_at_in {K : PySem.W.Frag} {h : Heap} {mg : Str → Option Value} {x qual : Str} {st : Stmt} {f c P c' P' : Addr} {fd : FuncData} (KX : K.In h) (G : h.Ns mainGlobals mg) (m : mg x = some (.ref f)) (F : Fun K x qual st f fd) (ac : fd.code = .ref c) (d : PySem.W.CodeHd h c P)
    (ht : PySem.W.tabIn K x = some (c', P')) : P = P' := by
  obtain ⟨_, _, _, _, _, _, cdv, _, _, rfl, look, _⟩ := F.ex
  have ac : cdv = .ref c := ac
  subst ac
  unfold PySem.W.tabIn at ht
  split at ht
  · rename_i f2 hf
    have e1 := PySem.W.mg_of KX G hf
    obtain rfl : f = f2 := Value.ref.inj (Option.some.inj (m.symm.trans e1))
    rw [look] at ht
    obtain ⟨o, vs, _, _, _, _, _, _, _, g1, _, g3, g4, _⟩ := d
    cases hco : K.lookup c with
    | none =>
      dsimp only [PySem.W.fnOf] at ht
      rw [hco] at ht
      cases ht
    | some o2 =>
      have e3 := KX _ _ hco
      rw [e3] at g1
      cases g1
      obtain ⟨cl, dct, dat, fr⟩ := o
      have g3 : dat = .fields vs := g3
      subst g3
      dsimp only [PySem.W.fnOf] at ht
      rw [hco] at ht
      dsimp only at ht
      rw [g4] at ht
      cases ht
      rfl
  · cases ht
theorem tabs_ne {K : PySem.W.Frag} {h : Heap} {mg : Str → Option Value} {x y qx qy : Str} {sx sy : Stmt} {f g c P c' P' : Addr} {fd gd : FuncData} (KX : K.In h) (G : h.Ns mainGlobals mg) (mx : mg x = some (.ref f)) (my : mg y = some (.ref g)) (F : Fun K x qx sx f fd) (F' : Fun K y qy sy g gd)
    (ac : fd.code = .ref c) (ac' : gd.code = .ref c') (d : PySem.W.CodeHd h c P) (d' : PySem.W.CodeHd h c' P') (ne : tabsNe K x y = true) : P ≠ P' := by
  unfold tabsNe at ne
  split at ne
  · rename_i p q hp hq
    have e1 := tab_at_in (c' := p.1) (P' := p.2) KX G mx F ac d hp
    have e2 := tab_at_in (c' := q.1) (P' := q.2) KX G my F' ac' d' hq
    rw [e1, e2]
    intro z
    rw [z] at ne
    simp at ne
  · cases ne
end CG

namespace CS
open PySem PySem.Spec PyProof.Rows L2
def top (i : Nat) : Stmt := PySem.Challenge.pw_calledseats_k42_invalid_records.main.body.getD i (.Pass ⟨0, 0, 0, 0⟩)
abbrev s_wall : Stmt := top 0
abbrev N_wall : List Str := ["k"]
theorem sc_wall : FnScope N_wall ["k"] (defScope s_wall) := ⟨rfl, rfl, rfl, by decide +kernel, rfl, by decide +kernel, by decide +kernel⟩
abbrev s_InvalidTable_init : Stmt := inClass (top 3) 0
abbrev N_InvalidTable_init : List Str := ["self", "rings"]
theorem sc_InvalidTable_init : FnScope N_InvalidTable_init ["self", "rings"] (defScope s_InvalidTable_init) := ⟨rfl, rfl, rfl, by decide +kernel, rfl, by decide +kernel, by decide +kernel⟩
abbrev s_InvalidTargets_init : Stmt := inClass (top 4) 0
abbrev N_InvalidTargets_init : List Str := ["self", "index"]
theorem sc_InvalidTargets_init : FnScope N_InvalidTargets_init ["self", "index"] (defScope s_InvalidTargets_init) := ⟨rfl, rfl, rfl, by decide +kernel, rfl, by decide +kernel, by decide +kernel⟩
abbrev s_InvalidSeat_init : Stmt := inClass (top 5) 0
abbrev N_InvalidSeat_init : List Str := ["self", "seat"]
theorem sc_InvalidSeat_init : FnScope N_InvalidSeat_init ["self", "seat"] (defScope s_InvalidSeat_init) := ⟨rfl, rfl, rfl, by decide +kernel, rfl, by decide +kernel, by decide +kernel⟩
abbrev s_InvalidMoves_init : Stmt := inClass (top 8) 0
abbrev N_InvalidMoves_init : List Str := ["self", "index"]
theorem sc_InvalidMoves_init : FnScope N_InvalidMoves_init ["self", "index"] (defScope s_InvalidMoves_init) := ⟨rfl, rfl, rfl, by decide +kernel, rfl, by decide +kernel, by decide +kernel⟩
abbrev s_TooLarge_init : Stmt := inClass (top 9) 0
abbrev N_TooLarge_init : List Str := ["self", "limit"]
theorem sc_TooLarge_init : FnScope N_TooLarge_init ["self", "limit"] (defScope s_TooLarge_init) := ⟨rfl, rfl, rfl, by decide +kernel, rfl, by decide +kernel, by decide +kernel⟩
abbrev s_is_integer : Stmt := top 11
abbrev N_is_integer : List Str := ["value"]
theorem sc_is_integer : FnScope N_is_integer ["value"] (defScope s_is_integer) := ⟨rfl, rfl, rfl, by decide +kernel, rfl, by decide +kernel, by decide +kernel⟩
abbrev s_is_at_least : Stmt := top 12
abbrev N_is_at_least : List Str := ["value", "low"]
theorem sc_is_at_least : FnScope N_is_at_least ["value", "low"] (defScope s_is_at_least) := ⟨rfl, rfl, rfl, by decide +kernel, rfl, by decide +kernel, by decide +kernel⟩
abbrev s_is_between : Stmt := top 13
abbrev N_is_between : List Str := ["value", "low", "high"]
theorem sc_is_between : FnScope N_is_between ["value", "low", "high"] (defScope s_is_between) := ⟨rfl, rfl, rfl, by decide +kernel, rfl, by decide +kernel, by decide +kernel⟩
abbrev s_greatest_common_divisor : Stmt := top 14
abbrev N_greatest_common_divisor : List Str := ["first", "second"]
theorem sc_greatest_common_divisor : FnScope N_greatest_common_divisor ["first", "second"] (defScope s_greatest_common_divisor) := ⟨rfl, rfl, rfl, by decide +kernel, rfl, by decide +kernel, by decide +kernel⟩
abbrev s_Table_init : Stmt := inClass (top 18) 0
abbrev N_Table_init : List Str := ["self", "rings", "size"]
theorem sc_Table_init : FnScope N_Table_init ["self", "rings"] (defScope s_Table_init) := ⟨rfl, rfl, rfl, by decide +kernel, rfl, by decide +kernel, by decide +kernel⟩
abbrev s_Table_sizes : Stmt := inClass (top 18) 1
abbrev N_Table_sizes : List Str := ["self"]
theorem sc_Table_sizes : FnScope N_Table_sizes ["self"] (defScope s_Table_sizes) := ⟨rfl, rfl, rfl, by decide +kernel, rfl, by decide +kernel, by decide +kernel⟩
abbrev s_Table_count : Stmt := inClass (top 18) 2
abbrev N_Table_count : List Str := ["self", "product", "size"]
theorem sc_Table_count : FnScope N_Table_count ["self"] (defScope s_Table_count) := ⟨rfl, rfl, rfl, by decide +kernel, rfl, by decide +kernel, by decide +kernel⟩
abbrev s_Table_is_seat : Stmt := inClass (top 18) 3
abbrev N_Table_is_seat : List Str := ["self", "value", "place", "size"]
theorem sc_Table_is_seat : FnScope N_Table_is_seat ["self", "value"] (defScope s_Table_is_seat) := ⟨rfl, rfl, rfl, by decide +kernel, rfl, by decide +kernel, by decide +kernel⟩
abbrev s_Table_is_call : Stmt := inClass (top 18) 4
abbrev N_Table_is_call : List Str := ["self", "value", "one"]
theorem sc_Table_is_call : FnScope N_Table_is_call ["self", "value"] (defScope s_Table_is_call) := ⟨rfl, rfl, rfl, by decide +kernel, rfl, by decide +kernel, by decide +kernel⟩
abbrev s_Table_shifted : Stmt := inClass (top 18) 5
abbrev N_Table_shifted : List Str := ["self", "seat", "call", "factor", "place", "one", "size"]
theorem sc_Table_shifted : FnScope N_Table_shifted ["self", "seat", "call", "factor"] (defScope s_Table_shifted) := ⟨rfl, rfl, rfl, by decide +kernel, rfl, by decide +kernel, by decide +kernel⟩
abbrev s_Table_moves : Stmt := inClass (top 18) 6
abbrev N_Table_moves : List Str := ["self", "seat", "call"]
theorem sc_Table_moves : FnScope N_Table_moves ["self", "seat", "call"] (defScope s_Table_moves) := ⟨rfl, rfl, rfl, by decide +kernel, rfl, by decide +kernel, by decide +kernel⟩
abbrev s_Table_step : Stmt := inClass (top 18) 7
abbrev N_Table_step : List Str := ["self", "seat", "call", "direction", "both_seats"]
theorem sc_Table_step : FnScope N_Table_step ["self", "seat", "call", "direction"] (defScope s_Table_step) := ⟨rfl, rfl, rfl, by decide +kernel, rfl, by decide +kernel, by decide +kernel⟩
abbrev s_Table_order : Stmt := inClass (top 18) 8
abbrev N_Table_order : List Str := ["self", "seat", "least", "place", "size", "period"]
theorem sc_Table_order : FnScope N_Table_order ["self", "seat"] (defScope s_Table_order) := ⟨rfl, rfl, rfl, by decide +kernel, rfl, by decide +kernel, by decide +kernel⟩
abbrev s_Table_halves : Stmt := inClass (top 18) 9
abbrev N_Table_halves : List Str := ["self", "seat"]
theorem sc_Table_halves : FnScope N_Table_halves ["self", "seat"] (defScope s_Table_halves) := ⟨rfl, rfl, rfl, by decide +kernel, rfl, by decide +kernel, by decide +kernel⟩
abbrev s_is_direction : Stmt := top 19
abbrev N_is_direction : List Str := ["value"]
theorem sc_is_direction : FnScope N_is_direction ["value"] (defScope s_is_direction) := ⟨rfl, rfl, rfl, by decide +kernel, rfl, by decide +kernel, by decide +kernel⟩
abbrev s_require_table : Stmt := top 20
abbrev N_require_table : List Str := ["table"]
theorem sc_require_table : FnScope N_require_table ["table"] (defScope s_require_table) := ⟨rfl, rfl, rfl, by decide +kernel, rfl, by decide +kernel, by decide +kernel⟩
abbrev s_require_seat : Stmt := top 21
abbrev N_require_seat : List Str := ["table", "seat"]
theorem sc_require_seat : FnScope N_require_seat ["table", "seat"] (defScope s_require_seat) := ⟨rfl, rfl, rfl, by decide +kernel, rfl, by decide +kernel, by decide +kernel⟩
abbrev s_require_call : Stmt := top 22
abbrev N_require_call : List Str := ["table", "call"]
theorem sc_require_call : FnScope N_require_call ["table", "call"] (defScope s_require_call) := ⟨rfl, rfl, rfl, by decide +kernel, rfl, by decide +kernel, by decide +kernel⟩
abbrev s_require_targets : Stmt := top 23
abbrev N_require_targets : List Str := ["table", "targets", "seen", "index", "seat"]
theorem sc_require_targets : FnScope N_require_targets ["table", "targets"] (defScope s_require_targets) := ⟨rfl, rfl, rfl, by decide +kernel, rfl, by decide +kernel, by decide +kernel⟩
abbrev s_require_small : Stmt := top 24
abbrev N_require_small : List Str := ["table"]
theorem sc_require_small : FnScope N_require_small ["table"] (defScope s_require_small) := ⟨rfl, rfl, rfl, by decide +kernel, rfl, by decide +kernel, by decide +kernel⟩
abbrev s_all_seats : Stmt := top 25
abbrev N_all_seats : List Str := ["table", "found", "size", "start", "place"]
theorem sc_all_seats : FnScope N_all_seats ["table"] (defScope s_all_seats) := ⟨rfl, rfl, rfl, by decide +kernel, rfl, by decide +kernel, by decide +kernel⟩
abbrev s_mirror_seat : Stmt := top 27
abbrev N_mirror_seat : List Str := ["table", "seat", "other", "place", "one", "size"]
theorem sc_mirror_seat : FnScope N_mirror_seat ["table", "seat", "other"] (defScope s_mirror_seat) := ⟨rfl, rfl, rfl, by decide +kernel, rfl, by decide +kernel, by decide +kernel⟩
abbrev s_call_counts : Stmt := top 28
abbrev N_call_counts : List Str := ["table", "targets", "found", "missing", "newest", "depth", "target", "seat", "one"]
theorem sc_call_counts : FnScope N_call_counts ["table", "targets"] (defScope s_call_counts) := ⟨rfl, rfl, rfl, by decide +kernel, rfl, by decide +kernel, by decide +kernel⟩
abbrev s_weighted : Stmt := top 30
abbrev N_weighted : List Str := ["modulus", "weights", "seat", "weight", "place"]
theorem sc_weighted : FnScope N_weighted ["modulus", "weights", "seat"] (defScope s_weighted) := ⟨rfl, rfl, rfl, by decide +kernel, rfl, by decide +kernel, by decide +kernel⟩
abbrev s_is_move : Stmt := top 32
abbrev N_is_move : List Str := ["table", "value"]
theorem sc_is_move : FnScope N_is_move ["table", "value"] (defScope s_is_move) := ⟨rfl, rfl, rfl, by decide +kernel, rfl, by decide +kernel, by decide +kernel⟩
abbrev s_require_moves : Stmt := top 33
abbrev N_require_moves : List Str := ["table", "moves", "index", "move"]
theorem sc_require_moves : FnScope N_require_moves ["table", "moves"] (defScope s_require_moves) := ⟨rfl, rfl, rfl, by decide +kernel, rfl, by decide +kernel, by decide +kernel⟩
abbrev s_visited_seats : Stmt := top 34
abbrev N_visited_seats : List Str := ["table", "seat", "moves", "found", "call", "direction"]
theorem sc_visited_seats : FnScope N_visited_seats ["table", "seat", "moves"] (defScope s_visited_seats) := ⟨rfl, rfl, rfl, by decide +kernel, rfl, by decide +kernel, by decide +kernel⟩
abbrev s_larger : Stmt := top 35
abbrev N_larger : List Str := ["first", "second"]
theorem sc_larger : FnScope N_larger ["first", "second"] (defScope s_larger) := ⟨rfl, rfl, rfl, by decide +kernel, rfl, by decide +kernel, by decide +kernel⟩
abbrev s_caller_loss : Stmt := top 36
abbrev N_caller_loss : List Str := ["depth", "worst"]
theorem sc_caller_loss : FnScope N_caller_loss ["depth", "worst"] (defScope s_caller_loss) := ⟨rfl, rfl, rfl, by decide +kernel, rfl, by decide +kernel, by decide +kernel⟩
abbrev s_responder_loss : Stmt := top 37
abbrev N_responder_loss : List Str := ["worst", "depth"]
theorem sc_responder_loss : FnScope N_responder_loss ["worst", "depth"] (defScope s_responder_loss) := ⟨rfl, rfl, rfl, by decide +kernel, rfl, by decide +kernel, by decide +kernel⟩
abbrev s_Record_init : Stmt := inClass (top 38) 0
abbrev N_Record_init : List Str := ["self", "table", "targets", "seat", "moves"]
theorem sc_Record_init : FnScope N_Record_init ["self", "table", "targets", "seat", "moves"] (defScope s_Record_init) := ⟨rfl, rfl, rfl, by decide +kernel, rfl, by decide +kernel, by decide +kernel⟩
abbrev s_Record_seats : Stmt := inClass (top 38) 1
abbrev N_Record_seats : List Str := ["self"]
theorem sc_Record_seats : FnScope N_Record_seats ["self"] (defScope s_Record_seats) := ⟨rfl, rfl, rfl, by decide +kernel, rfl, by decide +kernel, by decide +kernel⟩
abbrev s_Record_calls_to_target : Stmt := inClass (top 38) 2
abbrev N_Record_calls_to_target : List Str := ["self", "index", "seat"]
theorem sc_Record_calls_to_target : FnScope N_Record_calls_to_target ["self"] (defScope s_Record_calls_to_target) := ⟨rfl, rfl, rfl, by decide +kernel, rfl, by decide +kernel, by decide +kernel⟩
abbrev s_Record_losses : Stmt := inClass (top 38) 3
abbrev N_Record_losses : List Str := ["self", "depths", "count", "found", "index", "move", "forward", "backward", "worst", "first"]
theorem sc_Record_losses : FnScope N_Record_losses ["self"] (defScope s_Record_losses) := ⟨rfl, rfl, rfl, by decide +kernel, rfl, by decide +kernel, by decide +kernel⟩
abbrev s_Record_first_mistake : Stmt := inClass (top 38) 4
abbrev N_Record_first_mistake : List Str := ["self", "index", "loss"]
theorem sc_Record_first_mistake : FnScope N_Record_first_mistake ["self"] (defScope s_Record_first_mistake) := ⟨rfl, rfl, rfl, by decide +kernel, rfl, by decide +kernel, by decide +kernel⟩
abbrev s_common_exponent : Stmt := top 39
abbrev N_common_exponent : List Str := ["sizes", "exponent", "size", "odd"]
theorem sc_common_exponent : FnScope N_common_exponent ["sizes"] (defScope s_common_exponent) := ⟨rfl, rfl, rfl, by decide +kernel, rfl, by decide +kernel, by decide +kernel⟩
abbrev s_weight_rows : Stmt := top 40
abbrev N_weight_rows : List Str := ["sizes", "modulus", "found", "size", "step", "start", "weight"]
theorem sc_weight_rows : FnScope N_weight_rows ["sizes", "modulus"] (defScope s_weight_rows) := ⟨rfl, rfl, rfl, by decide +kernel, rfl, by decide +kernel, by decide +kernel⟩
abbrev s_units_of : Stmt := top 41
abbrev N_units_of : List Str := ["modulus", "unit"]
theorem sc_units_of : FnScope N_units_of ["modulus"] (defScope s_units_of) := ⟨rfl, rfl, rfl, by decide +kernel, rfl, by decide +kernel, by decide +kernel⟩
abbrev s_is_canonical : Stmt := top 42
abbrev N_is_canonical : List Str := ["modulus", "units", "weights", "shared", "weight", "unit"]
theorem sc_is_canonical : FnScope N_is_canonical ["modulus", "units", "weights"] (defScope s_is_canonical) := ⟨rfl, rfl, rfl, by decide +kernel, rfl, by decide +kernel, by decide +kernel⟩
abbrev s_explains : Stmt := top 43
abbrev N_explains : List Str := ["table", "visited", "moves", "witness", "modulus", "weights", "residue", "index", "call", "direction", "ahead"]
theorem sc_explains : FnScope N_explains ["table", "visited", "moves", "witness"] (defScope s_explains) := ⟨rfl, rfl, rfl, by decide +kernel, rfl, by decide +kernel, by decide +kernel⟩
abbrev s_consistent_witnesses : Stmt := top 44
abbrev N_consistent_witnesses : List Str := ["table", "seat", "moves", "visited", "exponent", "found", "modulus", "units", "rows", "witnesses", "weights", "residue", "witness"]
theorem sc_consistent_witnesses : FnScope N_consistent_witnesses ["table", "seat", "moves"] (defScope s_consistent_witnesses) := ⟨rfl, rfl, rfl, by decide +kernel, rfl, by decide +kernel, by decide +kernel⟩
abbrev s_law_mixed : Stmt := top 46
abbrev N_law_mixed : List Str := ["_law_cell", "_law_k", "_law_number"]
theorem sc_law_mixed : FnScope N_law_mixed ["_law_cell", "_law_k"] (defScope s_law_mixed) := ⟨rfl, rfl, rfl, by decide +kernel, rfl, by decide +kernel, by decide +kernel⟩
abbrev s_law_source : Stmt := top 47
abbrev N_law_source : List Str := ["_law_cell"]
theorem sc_law_source : FnScope N_law_source ["_law_cell"] (defScope s_law_source) := ⟨rfl, rfl, rfl, by decide +kernel, rfl, by decide +kernel, by decide +kernel⟩
abbrev s_law_take : Stmt := top 48
abbrev N_law_take : List Str := ["_law_source_here", "_law_many", "_law_found"]
theorem sc_law_take : FnScope N_law_take ["_law_source_here", "_law_many"] (defScope s_law_take) := ⟨rfl, rfl, rfl, by decide +kernel, rfl, by decide +kernel, by decide +kernel⟩
abbrev s_law_one : Stmt := top 49
abbrev N_law_one : List Str := ["_law_source_here", "_law_some"]
theorem sc_law_one : FnScope N_law_one ["_law_source_here", "_law_some"] (defScope s_law_one) := ⟨rfl, rfl, rfl, by decide +kernel, rfl, by decide +kernel, by decide +kernel⟩
abbrev s_law_rings : Stmt := top 50
abbrev N_law_rings : List Str := ["_law_source_here", "_law_limit", "_law_rings_here", "_law_total", "_law_ring", "_law_size"]
theorem sc_law_rings : FnScope N_law_rings ["_law_source_here", "_law_limit"] (defScope s_law_rings) := ⟨rfl, rfl, rfl, by decide +kernel, rfl, by decide +kernel, by decide +kernel⟩
abbrev s_law_seat : Stmt := top 51
abbrev N_law_seat : List Str := ["_law_source_here", "_law_rings_here", "_law_size"]
theorem sc_law_seat : FnScope N_law_seat ["_law_source_here", "_law_rings_here"] (defScope s_law_seat) := ⟨rfl, rfl, rfl, by decide +kernel, rfl, by decide +kernel, by decide +kernel⟩
abbrev s_law_seats : Stmt := top 52
abbrev N_law_seats : List Str := ["_law_source_here", "_law_rings_here", "_law_most", "_law_found", "_law_turn", "_law_spot"]
theorem sc_law_seats : FnScope N_law_seats ["_law_source_here", "_law_rings_here", "_law_most"] (defScope s_law_seats) := ⟨rfl, rfl, rfl, by decide +kernel, rfl, by decide +kernel, by decide +kernel⟩
abbrev s_law_call : Stmt := top 53
abbrev N_law_call : List Str := ["_law_source_here", "_law_rings_here", "_law_factor", "_law_size"]
theorem sc_law_call : FnScope N_law_call ["_law_source_here", "_law_rings_here"] (defScope s_law_call) := ⟨rfl, rfl, rfl, by decide +kernel, rfl, by decide +kernel, by decide +kernel⟩
abbrev s_law_moves : Stmt := top 54
abbrev N_law_moves : List Str := ["_law_source_here", "_law_rings_here", "_law_most", "_law_found", "_law_turn"]
theorem sc_law_moves : FnScope N_law_moves ["_law_source_here", "_law_rings_here", "_law_most"] (defScope s_law_moves) := ⟨rfl, rfl, rfl, by decide +kernel, rfl, by decide +kernel, by decide +kernel⟩
abbrev s_law_raised : Stmt := top 55
abbrev N_law_raised : List Str := ["_law_ask", "error"]
theorem sc_law_raised : FnScope N_law_raised ["_law_ask"] (defScope s_law_raised) := ⟨rfl, rfl, rfl, by decide +kernel, rfl, by decide +kernel, by decide +kernel⟩
abbrev s_law_bad_seat : Stmt := top 56
abbrev N_law_bad_seat : List Str := ["_law_source_here", "_law_rings_here", "_law_good", "_law_some"]
theorem sc_law_bad_seat : FnScope N_law_bad_seat ["_law_source_here", "_law_rings_here"] (defScope s_law_bad_seat) := ⟨rfl, rfl, rfl, by decide +kernel, rfl, by decide +kernel, by decide +kernel⟩
abbrev s_law_bad_targets : Stmt := top 57
abbrev N_law_bad_targets : List Str := ["_law_source_here", "_law_rings_here", "_law_good", "_law_bad", "_law_some"]
theorem sc_law_bad_targets : FnScope N_law_bad_targets ["_law_source_here", "_law_rings_here"] (defScope s_law_bad_targets) := ⟨rfl, rfl, rfl, by decide +kernel, rfl, by decide +kernel, by decide +kernel⟩
abbrev s_law_bad_move : Stmt := top 58
abbrev N_law_bad_move : List Str := ["_law_source_here", "_law_rings_here", "_law_call_here", "_law_some"]
theorem sc_law_bad_move : FnScope N_law_bad_move ["_law_source_here", "_law_rings_here"] (defScope s_law_bad_move) := ⟨rfl, rfl, rfl, by decide +kernel, rfl, by decide +kernel, by decide +kernel⟩
abbrev s_law_right : Stmt := top 59
abbrev N_law_right : List Str := ["_law_source_here", "_law_rings_here", "_law_table", "_law_goals", "_law_start", "_law_good", "_law_wrong", "_law_index", "_law_bad", "_law_at", "_law_broken", "_law_nothing", "_law_thing", "_law_due", "_law_found"]
theorem sc_law_right : FnScope N_law_right ["_law_source_here", "_law_rings_here"] (defScope s_law_right) := ⟨rfl, rfl, rfl, by decide +kernel, rfl, by decide +kernel, by decide +kernel⟩
abbrev s_law_large_right : Stmt := top 60
abbrev N_law_large_right : List Str := ["_law_source_here", "_law_rings_here", "_law_table", "_law_goals", "_law_start", "_law_good", "_law_game", "_law_found", "_law_broken"]
theorem sc_law_large_right : FnScope N_law_large_right ["_law_source_here", "_law_rings_here"] (defScope s_law_large_right) := ⟨rfl, rfl, rfl, by decide +kernel, rfl, by decide +kernel, by decide +kernel⟩
abbrev s_law : Stmt := top 61
abbrev N_law : List Str := ["_law_script", "_law_cell", "_law_source_here", "_law_wide"]
theorem sc_law : FnScope N_law ["_law_script"] (defScope s_law) := ⟨rfl, rfl, rfl, by decide +kernel, rfl, by decide +kernel, by decide +kernel⟩
/-- what the top has written -/
structure TX (K : PySem.W.Frag) (mg : Str → Option Value) where
  C_SeatError : Addr
  m_SeatError : mg "SeatError" = some (.ref C_SeatError)
  f_wall : Addr
  fd_wall : FuncData
  F_wall : Fun K "_wall" "_wall" s_wall f_wall fd_wall
  b_wall : Binds K fd_wall ["k"] []
  m_wall : mg "_wall" = some (.ref f_wall)
  f_InvalidTable_init : Addr
  fd_InvalidTable_init : FuncData
  F_InvalidTable_init : Fun K "__init__" "InvalidTable.__init__" s_InvalidTable_init f_InvalidTable_init fd_InvalidTable_init
  b_InvalidTable_init : Binds K fd_InvalidTable_init ["self", "rings"] []
  f_InvalidTargets_init : Addr
  fd_InvalidTargets_init : FuncData
  F_InvalidTargets_init : Fun K "__init__" "InvalidTargets.__init__" s_InvalidTargets_init f_InvalidTargets_init fd_InvalidTargets_init
  b_InvalidTargets_init : Binds K fd_InvalidTargets_init ["self", "index"] []
  f_InvalidSeat_init : Addr
  fd_InvalidSeat_init : FuncData
  F_InvalidSeat_init : Fun K "__init__" "InvalidSeat.__init__" s_InvalidSeat_init f_InvalidSeat_init fd_InvalidSeat_init
  b_InvalidSeat_init : Binds K fd_InvalidSeat_init ["self", "seat"] []
  f_InvalidMoves_init : Addr
  fd_InvalidMoves_init : FuncData
  F_InvalidMoves_init : Fun K "__init__" "InvalidMoves.__init__" s_InvalidMoves_init f_InvalidMoves_init fd_InvalidMoves_init
  b_InvalidMoves_init : Binds K fd_InvalidMoves_init ["self", "index"] []
  f_TooLarge_init : Addr
  fd_TooLarge_init : FuncData
  F_TooLarge_init : Fun K "__init__" "TooLarge.__init__" s_TooLarge_init f_TooLarge_init fd_TooLarge_init
  b_TooLarge_init : Binds K fd_TooLarge_init ["self", "limit"] []
  f_is_integer : Addr
  fd_is_integer : FuncData
  F_is_integer : Fun K "is_integer" "is_integer" s_is_integer f_is_integer fd_is_integer
  b_is_integer : Binds K fd_is_integer ["value"] []
  m_is_integer : mg "is_integer" = some (.ref f_is_integer)
  f_is_at_least : Addr
  fd_is_at_least : FuncData
  F_is_at_least : Fun K "is_at_least" "is_at_least" s_is_at_least f_is_at_least fd_is_at_least
  b_is_at_least : Binds K fd_is_at_least ["value", "low"] []
  m_is_at_least : mg "is_at_least" = some (.ref f_is_at_least)
  f_is_between : Addr
  fd_is_between : FuncData
  F_is_between : Fun K "is_between" "is_between" s_is_between f_is_between fd_is_between
  b_is_between : Binds K fd_is_between ["value", "low", "high"] []
  m_is_between : mg "is_between" = some (.ref f_is_between)
  f_greatest_common_divisor : Addr
  fd_greatest_common_divisor : FuncData
  F_greatest_common_divisor : Fun K "greatest_common_divisor" "greatest_common_divisor" s_greatest_common_divisor f_greatest_common_divisor fd_greatest_common_divisor
  b_greatest_common_divisor : Binds K fd_greatest_common_divisor ["first", "second"] []
  m_greatest_common_divisor : mg "greatest_common_divisor" = some (.ref f_greatest_common_divisor)
  f_Table_init : Addr
  fd_Table_init : FuncData
  F_Table_init : Fun K "__init__" "Table.__init__" s_Table_init f_Table_init fd_Table_init
  b_Table_init : Binds K fd_Table_init ["self", "rings"] []
  f_Table_sizes : Addr
  fd_Table_sizes : FuncData
  F_Table_sizes : Fun K "sizes" "Table.sizes" s_Table_sizes f_Table_sizes fd_Table_sizes
  b_Table_sizes : Binds K fd_Table_sizes ["self"] []
  f_Table_count : Addr
  fd_Table_count : FuncData
  F_Table_count : Fun K "count" "Table.count" s_Table_count f_Table_count fd_Table_count
  b_Table_count : Binds K fd_Table_count ["self"] []
  f_Table_is_seat : Addr
  fd_Table_is_seat : FuncData
  F_Table_is_seat : Fun K "is_seat" "Table.is_seat" s_Table_is_seat f_Table_is_seat fd_Table_is_seat
  b_Table_is_seat : Binds K fd_Table_is_seat ["self", "value"] []
  f_Table_is_call : Addr
  fd_Table_is_call : FuncData
  F_Table_is_call : Fun K "is_call" "Table.is_call" s_Table_is_call f_Table_is_call fd_Table_is_call
  b_Table_is_call : Binds K fd_Table_is_call ["self", "value"] []
  f_Table_shifted : Addr
  fd_Table_shifted : FuncData
  F_Table_shifted : Fun K "shifted" "Table.shifted" s_Table_shifted f_Table_shifted fd_Table_shifted
  b_Table_shifted : Binds K fd_Table_shifted ["self", "seat", "call", "factor"] []
  f_Table_moves : Addr
  fd_Table_moves : FuncData
  F_Table_moves : Fun K "moves" "Table.moves" s_Table_moves f_Table_moves fd_Table_moves
  b_Table_moves : Binds K fd_Table_moves ["self", "seat", "call"] []
  f_Table_step : Addr
  fd_Table_step : FuncData
  F_Table_step : Fun K "step" "Table.step" s_Table_step f_Table_step fd_Table_step
  b_Table_step : Binds K fd_Table_step ["self", "seat", "call", "direction"] []
  f_Table_order : Addr
  fd_Table_order : FuncData
  F_Table_order : Fun K "order" "Table.order" s_Table_order f_Table_order fd_Table_order
  b_Table_order : Binds K fd_Table_order ["self", "seat"] []
  f_Table_halves : Addr
  fd_Table_halves : FuncData
  F_Table_halves : Fun K "halves" "Table.halves" s_Table_halves f_Table_halves fd_Table_halves
  b_Table_halves : Binds K fd_Table_halves ["self", "seat"] []
  f_is_direction : Addr
  fd_is_direction : FuncData
  F_is_direction : Fun K "is_direction" "is_direction" s_is_direction f_is_direction fd_is_direction
  b_is_direction : Binds K fd_is_direction ["value"] []
  m_is_direction : mg "is_direction" = some (.ref f_is_direction)
  f_require_table : Addr
  fd_require_table : FuncData
  F_require_table : Fun K "require_table" "require_table" s_require_table f_require_table fd_require_table
  b_require_table : Binds K fd_require_table ["table"] []
  m_require_table : mg "require_table" = some (.ref f_require_table)
  f_require_seat : Addr
  fd_require_seat : FuncData
  F_require_seat : Fun K "require_seat" "require_seat" s_require_seat f_require_seat fd_require_seat
  b_require_seat : Binds K fd_require_seat ["table", "seat"] []
  m_require_seat : mg "require_seat" = some (.ref f_require_seat)
  f_require_call : Addr
  fd_require_call : FuncData
  F_require_call : Fun K "require_call" "require_call" s_require_call f_require_call fd_require_call
  b_require_call : Binds K fd_require_call ["table", "call"] []
  m_require_call : mg "require_call" = some (.ref f_require_call)
  f_require_targets : Addr
  fd_require_targets : FuncData
  F_require_targets : Fun K "require_targets" "require_targets" s_require_targets f_require_targets fd_require_targets
  b_require_targets : Binds K fd_require_targets ["table", "targets"] []
  m_require_targets : mg "require_targets" = some (.ref f_require_targets)
  f_require_small : Addr
  fd_require_small : FuncData
  F_require_small : Fun K "require_small" "require_small" s_require_small f_require_small fd_require_small
  b_require_small : Binds K fd_require_small ["table"] []
  m_require_small : mg "require_small" = some (.ref f_require_small)
  f_all_seats : Addr
  fd_all_seats : FuncData
  F_all_seats : Fun K "all_seats" "all_seats" s_all_seats f_all_seats fd_all_seats
  b_all_seats : Binds K fd_all_seats ["table"] []
  m_all_seats : mg "all_seats" = some (.ref f_all_seats)
  f_mirror_seat : Addr
  fd_mirror_seat : FuncData
  F_mirror_seat : Fun K "mirror_seat" "mirror_seat" s_mirror_seat f_mirror_seat fd_mirror_seat
  b_mirror_seat : Binds K fd_mirror_seat ["table", "seat", "other"] []
  m_mirror_seat : mg "mirror_seat" = some (.ref f_mirror_seat)
  f_call_counts : Addr
  fd_call_counts : FuncData
  F_call_counts : Fun K "call_counts" "call_counts" s_call_counts f_call_counts fd_call_counts
  b_call_counts : Binds K fd_call_counts ["table", "targets"] []
  m_call_counts : mg "call_counts" = some (.ref f_call_counts)
  f_weighted : Addr
  fd_weighted : FuncData
  F_weighted : Fun K "weighted" "weighted" s_weighted f_weighted fd_weighted
  b_weighted : Binds K fd_weighted ["modulus", "weights", "seat"] []
  m_weighted : mg "weighted" = some (.ref f_weighted)
  f_is_move : Addr
  fd_is_move : FuncData
  F_is_move : Fun K "is_move" "is_move" s_is_move f_is_move fd_is_move
  b_is_move : Binds K fd_is_move ["table", "value"] []
  m_is_move : mg "is_move" = some (.ref f_is_move)
  f_require_moves : Addr
  fd_require_moves : FuncData
  F_require_moves : Fun K "require_moves" "require_moves" s_require_moves f_require_moves fd_require_moves
  b_require_moves : Binds K fd_require_moves ["table", "moves"] []
  m_require_moves : mg "require_moves" = some (.ref f_require_moves)
  f_visited_seats : Addr
  fd_visited_seats : FuncData
  F_visited_seats : Fun K "visited_seats" "visited_seats" s_visited_seats f_visited_seats fd_visited_seats
  b_visited_seats : Binds K fd_visited_seats ["table", "seat", "moves"] []
  m_visited_seats : mg "visited_seats" = some (.ref f_visited_seats)
  f_larger : Addr
  fd_larger : FuncData
  F_larger : Fun K "larger" "larger" s_larger f_larger fd_larger
  b_larger : Binds K fd_larger ["first", "second"] []
  m_larger : mg "larger" = some (.ref f_larger)
  f_caller_loss : Addr
  fd_caller_loss : FuncData
  F_caller_loss : Fun K "caller_loss" "caller_loss" s_caller_loss f_caller_loss fd_caller_loss
  b_caller_loss : Binds K fd_caller_loss ["depth", "worst"] []
  m_caller_loss : mg "caller_loss" = some (.ref f_caller_loss)
  f_responder_loss : Addr
  fd_responder_loss : FuncData
  F_responder_loss : Fun K "responder_loss" "responder_loss" s_responder_loss f_responder_loss fd_responder_loss
  b_responder_loss : Binds K fd_responder_loss ["worst", "depth"] []
  m_responder_loss : mg "responder_loss" = some (.ref f_responder_loss)
  f_Record_init : Addr
  fd_Record_init : FuncData
  F_Record_init : Fun K "__init__" "Record.__init__" s_Record_init f_Record_init fd_Record_init
  b_Record_init : Binds K fd_Record_init ["self", "table", "targets", "seat", "moves"] []
  f_Record_seats : Addr
  fd_Record_seats : FuncData
  F_Record_seats : Fun K "seats" "Record.seats" s_Record_seats f_Record_seats fd_Record_seats
  b_Record_seats : Binds K fd_Record_seats ["self"] []
  f_Record_calls_to_target : Addr
  fd_Record_calls_to_target : FuncData
  F_Record_calls_to_target : Fun K "calls_to_target" "Record.calls_to_target" s_Record_calls_to_target f_Record_calls_to_target fd_Record_calls_to_target
  b_Record_calls_to_target : Binds K fd_Record_calls_to_target ["self"] []
  f_Record_losses : Addr
  fd_Record_losses : FuncData
  F_Record_losses : Fun K "losses" "Record.losses" s_Record_losses f_Record_losses fd_Record_losses
  b_Record_losses : Binds K fd_Record_losses ["self"] []
  f_Record_first_mistake : Addr
  fd_Record_first_mistake : FuncData
  F_Record_first_mistake : Fun K "first_mistake" "Record.first_mistake" s_Record_first_mistake f_Record_first_mistake fd_Record_first_mistake
  b_Record_first_mistake : Binds K fd_Record_first_mistake ["self"] []
  f_common_exponent : Addr
  fd_common_exponent : FuncData
  F_common_exponent : Fun K "common_exponent" "common_exponent" s_common_exponent f_common_exponent fd_common_exponent
  b_common_exponent : Binds K fd_common_exponent ["sizes"] []
  m_common_exponent : mg "common_exponent" = some (.ref f_common_exponent)
  f_weight_rows : Addr
  fd_weight_rows : FuncData
  F_weight_rows : Fun K "weight_rows" "weight_rows" s_weight_rows f_weight_rows fd_weight_rows
  b_weight_rows : Binds K fd_weight_rows ["sizes", "modulus"] []
  m_weight_rows : mg "weight_rows" = some (.ref f_weight_rows)
  f_units_of : Addr
  fd_units_of : FuncData
  F_units_of : Fun K "units_of" "units_of" s_units_of f_units_of fd_units_of
  b_units_of : Binds K fd_units_of ["modulus"] []
  m_units_of : mg "units_of" = some (.ref f_units_of)
  f_is_canonical : Addr
  fd_is_canonical : FuncData
  F_is_canonical : Fun K "is_canonical" "is_canonical" s_is_canonical f_is_canonical fd_is_canonical
  b_is_canonical : Binds K fd_is_canonical ["modulus", "units", "weights"] []
  m_is_canonical : mg "is_canonical" = some (.ref f_is_canonical)
  f_explains : Addr
  fd_explains : FuncData
  F_explains : Fun K "explains" "explains" s_explains f_explains fd_explains
  b_explains : Binds K fd_explains ["table", "visited", "moves", "witness"] []
  m_explains : mg "explains" = some (.ref f_explains)
  f_consistent_witnesses : Addr
  fd_consistent_witnesses : FuncData
  F_consistent_witnesses : Fun K "consistent_witnesses" "consistent_witnesses" s_consistent_witnesses f_consistent_witnesses fd_consistent_witnesses
  b_consistent_witnesses : Binds K fd_consistent_witnesses ["table", "seat", "moves"] []
  m_consistent_witnesses : mg "consistent_witnesses" = some (.ref f_consistent_witnesses)
  f_law_mixed : Addr
  fd_law_mixed : FuncData
  F_law_mixed : Fun K "_law_mixed" "_law_mixed" s_law_mixed f_law_mixed fd_law_mixed
  b_law_mixed : Binds K fd_law_mixed ["_law_cell", "_law_k"] []
  m_law_mixed : mg "_law_mixed" = some (.ref f_law_mixed)
  f_law_source : Addr
  fd_law_source : FuncData
  F_law_source : Fun K "_law_source" "_law_source" s_law_source f_law_source fd_law_source
  b_law_source : Binds K fd_law_source ["_law_cell"] []
  m_law_source : mg "_law_source" = some (.ref f_law_source)
  f_law_take : Addr
  fd_law_take : FuncData
  F_law_take : Fun K "_law_take" "_law_take" s_law_take f_law_take fd_law_take
  b_law_take : Binds K fd_law_take ["_law_source_here", "_law_many"] []
  m_law_take : mg "_law_take" = some (.ref f_law_take)
  f_law_one : Addr
  fd_law_one : FuncData
  F_law_one : Fun K "_law_one" "_law_one" s_law_one f_law_one fd_law_one
  b_law_one : Binds K fd_law_one ["_law_source_here", "_law_some"] []
  m_law_one : mg "_law_one" = some (.ref f_law_one)
  f_law_rings : Addr
  fd_law_rings : FuncData
  F_law_rings : Fun K "_law_rings" "_law_rings" s_law_rings f_law_rings fd_law_rings
  b_law_rings : Binds K fd_law_rings ["_law_source_here", "_law_limit"] []
  m_law_rings : mg "_law_rings" = some (.ref f_law_rings)
  f_law_seat : Addr
  fd_law_seat : FuncData
  F_law_seat : Fun K "_law_seat" "_law_seat" s_law_seat f_law_seat fd_law_seat
  b_law_seat : Binds K fd_law_seat ["_law_source_here", "_law_rings_here"] []
  m_law_seat : mg "_law_seat" = some (.ref f_law_seat)
  f_law_seats : Addr
  fd_law_seats : FuncData
  F_law_seats : Fun K "_law_seats" "_law_seats" s_law_seats f_law_seats fd_law_seats
  b_law_seats : Binds K fd_law_seats ["_law_source_here", "_law_rings_here", "_law_most"] []
  m_law_seats : mg "_law_seats" = some (.ref f_law_seats)
  f_law_call : Addr
  fd_law_call : FuncData
  F_law_call : Fun K "_law_call" "_law_call" s_law_call f_law_call fd_law_call
  b_law_call : Binds K fd_law_call ["_law_source_here", "_law_rings_here"] []
  m_law_call : mg "_law_call" = some (.ref f_law_call)
  f_law_moves : Addr
  fd_law_moves : FuncData
  F_law_moves : Fun K "_law_moves" "_law_moves" s_law_moves f_law_moves fd_law_moves
  b_law_moves : Binds K fd_law_moves ["_law_source_here", "_law_rings_here", "_law_most"] []
  m_law_moves : mg "_law_moves" = some (.ref f_law_moves)
  f_law_raised : Addr
  fd_law_raised : FuncData
  F_law_raised : Fun K "_law_raised" "_law_raised" s_law_raised f_law_raised fd_law_raised
  b_law_raised : Binds K fd_law_raised ["_law_ask"] []
  m_law_raised : mg "_law_raised" = some (.ref f_law_raised)
  f_law_bad_seat : Addr
  fd_law_bad_seat : FuncData
  F_law_bad_seat : Fun K "_law_bad_seat" "_law_bad_seat" s_law_bad_seat f_law_bad_seat fd_law_bad_seat
  b_law_bad_seat : Binds K fd_law_bad_seat ["_law_source_here", "_law_rings_here"] []
  m_law_bad_seat : mg "_law_bad_seat" = some (.ref f_law_bad_seat)
  f_law_bad_targets : Addr
  fd_law_bad_targets : FuncData
  F_law_bad_targets : Fun K "_law_bad_targets" "_law_bad_targets" s_law_bad_targets f_law_bad_targets fd_law_bad_targets
  b_law_bad_targets : Binds K fd_law_bad_targets ["_law_source_here", "_law_rings_here"] []
  m_law_bad_targets : mg "_law_bad_targets" = some (.ref f_law_bad_targets)
  f_law_bad_move : Addr
  fd_law_bad_move : FuncData
  F_law_bad_move : Fun K "_law_bad_move" "_law_bad_move" s_law_bad_move f_law_bad_move fd_law_bad_move
  b_law_bad_move : Binds K fd_law_bad_move ["_law_source_here", "_law_rings_here"] []
  m_law_bad_move : mg "_law_bad_move" = some (.ref f_law_bad_move)
  f_law_right : Addr
  fd_law_right : FuncData
  F_law_right : Fun K "_law_right" "_law_right" s_law_right f_law_right fd_law_right
  b_law_right : Binds K fd_law_right ["_law_source_here", "_law_rings_here"] []
  m_law_right : mg "_law_right" = some (.ref f_law_right)
  f_law_large_right : Addr
  fd_law_large_right : FuncData
  F_law_large_right : Fun K "_law_large_right" "_law_large_right" s_law_large_right f_law_large_right fd_law_large_right
  b_law_large_right : Binds K fd_law_large_right ["_law_source_here", "_law_rings_here"] []
  m_law_large_right : mg "_law_large_right" = some (.ref f_law_large_right)
  f_law : Addr
  fd_law : FuncData
  F_law : Fun K "law" "law" s_law f_law fd_law
  b_law : Binds K fd_law ["_law_script"] []
  m_law : mg "law" = some (.ref f_law)
  C_InvalidTable : Addr
  m_InvalidTable : mg "InvalidTable" = some (.ref C_InvalidTable)
  ox_InvalidTable : OexC K C_InvalidTable
  xf_InvalidTable : XfC K C_InvalidTable
  i_InvalidTable : PySem.W.findIn K (.ref C_InvalidTable) "__init__" = some (some (.ref f_InvalidTable_init))
  ti_InvalidTable : PySem.W.typeIn K (.ref f_InvalidTable_init) = some (.type "function")
  em_InvalidTable : PySem.W.exmOne K (.ref C_InvalidTable) (.ref C_InvalidTable) = some true
  em_InvalidTable_SeatError : PySem.W.exmOne K (.ref C_InvalidTable) (.ref C_SeatError) = some true
  n_InvalidTable_rings : PySem.W.findIn K (.ref C_InvalidTable) "rings" = some none
  C_InvalidTargets : Addr
  m_InvalidTargets : mg "InvalidTargets" = some (.ref C_InvalidTargets)
  ox_InvalidTargets : OexC K C_InvalidTargets
  xf_InvalidTargets : XfC K C_InvalidTargets
  i_InvalidTargets : PySem.W.findIn K (.ref C_InvalidTargets) "__init__" = some (some (.ref f_InvalidTargets_init))
  ti_InvalidTargets : PySem.W.typeIn K (.ref f_InvalidTargets_init) = some (.type "function")
  em_InvalidTargets : PySem.W.exmOne K (.ref C_InvalidTargets) (.ref C_InvalidTargets) = some true
  em_InvalidTargets_SeatError : PySem.W.exmOne K (.ref C_InvalidTargets) (.ref C_SeatError) = some true
  en_InvalidTargets_InvalidTable : PySem.W.exmOne K (.ref C_InvalidTargets) (.ref C_InvalidTable) = some false
  n_InvalidTargets_index : PySem.W.findIn K (.ref C_InvalidTargets) "index" = some none
  C_InvalidSeat : Addr
  m_InvalidSeat : mg "InvalidSeat" = some (.ref C_InvalidSeat)
  ox_InvalidSeat : OexC K C_InvalidSeat
  xf_InvalidSeat : XfC K C_InvalidSeat
  i_InvalidSeat : PySem.W.findIn K (.ref C_InvalidSeat) "__init__" = some (some (.ref f_InvalidSeat_init))
  ti_InvalidSeat : PySem.W.typeIn K (.ref f_InvalidSeat_init) = some (.type "function")
  em_InvalidSeat : PySem.W.exmOne K (.ref C_InvalidSeat) (.ref C_InvalidSeat) = some true
  em_InvalidSeat_SeatError : PySem.W.exmOne K (.ref C_InvalidSeat) (.ref C_SeatError) = some true
  en_InvalidSeat_InvalidTable : PySem.W.exmOne K (.ref C_InvalidSeat) (.ref C_InvalidTable) = some false
  en_InvalidSeat_InvalidTargets : PySem.W.exmOne K (.ref C_InvalidSeat) (.ref C_InvalidTargets) = some false
  n_InvalidSeat_seat : PySem.W.findIn K (.ref C_InvalidSeat) "seat" = some none
  C_InvalidMoves : Addr
  m_InvalidMoves : mg "InvalidMoves" = some (.ref C_InvalidMoves)
  ox_InvalidMoves : OexC K C_InvalidMoves
  xf_InvalidMoves : XfC K C_InvalidMoves
  i_InvalidMoves : PySem.W.findIn K (.ref C_InvalidMoves) "__init__" = some (some (.ref f_InvalidMoves_init))
  ti_InvalidMoves : PySem.W.typeIn K (.ref f_InvalidMoves_init) = some (.type "function")
  em_InvalidMoves : PySem.W.exmOne K (.ref C_InvalidMoves) (.ref C_InvalidMoves) = some true
  em_InvalidMoves_SeatError : PySem.W.exmOne K (.ref C_InvalidMoves) (.ref C_SeatError) = some true
  en_InvalidMoves_InvalidTable : PySem.W.exmOne K (.ref C_InvalidMoves) (.ref C_InvalidTable) = some false
  en_InvalidMoves_InvalidTargets : PySem.W.exmOne K (.ref C_InvalidMoves) (.ref C_InvalidTargets) = some false
  en_InvalidMoves_InvalidSeat : PySem.W.exmOne K (.ref C_InvalidMoves) (.ref C_InvalidSeat) = some false
  n_InvalidMoves_index : PySem.W.findIn K (.ref C_InvalidMoves) "index" = some none
  C_TooLarge : Addr
  m_TooLarge : mg "TooLarge" = some (.ref C_TooLarge)
  ox_TooLarge : OexC K C_TooLarge
  xf_TooLarge : XfC K C_TooLarge
  i_TooLarge : PySem.W.findIn K (.ref C_TooLarge) "__init__" = some (some (.ref f_TooLarge_init))
  ti_TooLarge : PySem.W.typeIn K (.ref f_TooLarge_init) = some (.type "function")
  em_TooLarge : PySem.W.exmOne K (.ref C_TooLarge) (.ref C_TooLarge) = some true
  em_TooLarge_SeatError : PySem.W.exmOne K (.ref C_TooLarge) (.ref C_SeatError) = some true
  en_TooLarge_InvalidTable : PySem.W.exmOne K (.ref C_TooLarge) (.ref C_InvalidTable) = some false
  en_TooLarge_InvalidTargets : PySem.W.exmOne K (.ref C_TooLarge) (.ref C_InvalidTargets) = some false
  en_TooLarge_InvalidSeat : PySem.W.exmOne K (.ref C_TooLarge) (.ref C_InvalidSeat) = some false
  en_TooLarge_InvalidMoves : PySem.W.exmOne K (.ref C_TooLarge) (.ref C_InvalidMoves) = some false
  n_TooLarge_limit : PySem.W.findIn K (.ref C_TooLarge) "limit" = some none
  C_Table : Addr
  cl_Table : Cls K C_Table
  m_Table : mg "Table" = some (.ref C_Table)
  M_Table : Mk K C_Table f_Table_init
  me_Table_sizes : Meth K C_Table "sizes" f_Table_sizes
  me_Table_count : Meth K C_Table "count" f_Table_count
  me_Table_is_seat : Meth K C_Table "is_seat" f_Table_is_seat
  me_Table_is_call : Meth K C_Table "is_call" f_Table_is_call
  me_Table_shifted : Meth K C_Table "shifted" f_Table_shifted
  me_Table_moves : Meth K C_Table "moves" f_Table_moves
  me_Table_step : Meth K C_Table "step" f_Table_step
  me_Table_order : Meth K C_Table "order" f_Table_order
  me_Table_halves : Meth K C_Table "halves" f_Table_halves
  n_Table_rings : NoAttr K C_Table "rings"
  ic_Table : PySem.W.findIn K (.ref C_Table) "__class__" = some (some (.builtin "object.__class__"))
  im_Table : PySem.W.mroIn K C_Table (.type "object") = some true
  C_Record : Addr
  cl_Record : Cls K C_Record
  m_Record : mg "Record" = some (.ref C_Record)
  M_Record : Mk K C_Record f_Record_init
  me_Record_seats : Meth K C_Record "seats" f_Record_seats
  me_Record_calls_to_target : Meth K C_Record "calls_to_target" f_Record_calls_to_target
  me_Record_losses : Meth K C_Record "losses" f_Record_losses
  me_Record_first_mistake : Meth K C_Record "first_mistake" f_Record_first_mistake
  n_Record_visited : NoAttr K C_Record "visited"
  n_Record_table : NoAttr K C_Record "table"
  n_Record_goals : NoAttr K C_Record "goals"
  n_Record_played : NoAttr K C_Record "played"
  ig_ : PySem.W.specialIn K (.builtin "object.__class__") "__get__" = some (some (.builtin "getset_descriptor.__get__"))
  it_ : PySem.W.takesIn K (.builtin "object.__class__") = some true
  ki_list_Table : PySem.W.kitAny K (.type "list") [.ref C_Table] = some false
  ki_tuple_Table : PySem.W.kitAny K (.type "tuple") [.ref C_Table] = some false
  ki_int_Table : PySem.W.kitAny K (.type "int") [.ref C_Table] = some false
  ki_bool_Table : PySem.W.kitAny K (.type "bool") [.ref C_Table] = some false
  ki_str_Table : PySem.W.kitAny K (.type "str") [.ref C_Table] = some false
  ki_dict_Table : PySem.W.kitAny K (.type "dict") [.ref C_Table] = some false
  ki_NoneType_Table : PySem.W.kitAny K (.type "NoneType") [.ref C_Table] = some false
  t_MAX_RINGS : Tok
  c_MAX_RINGS : mg "MAX_RINGS" = some (.int 4 t_MAX_RINGS)
  t_SMALL : Tok
  c_SMALL : mg "SMALL" = some (.int 300 t_SMALL)
  z_abs : mg "abs" = none
  z_all : mg "all" = none
  z_any : mg "any" = none
  z_bool : mg "bool" = none
  z_enumerate : mg "enumerate" = none
  z_int : mg "int" = none
  z_isinstance : mg "isinstance" = none
  z_len : mg "len" = none
  z_list : mg "list" = none
  z_max : mg "max" = none
  z_range : mg "range" = none
  z_repr : mg "repr" = none
  z_str : mg "str" = none
  z_sum : mg "sum" = none
  z_tuple : mg "tuple" = none
  z_zip : mg "zip" = none
/-- the code objects and tables of the defs that make lambdas -/
structure TL {K : PySem.W.Frag} {mg : Str → Option Value} (T : TX K mg) (base : Heap) where
  c_law_right : Addr
  p_law_right : Addr
  at_law_right : T.fd_law_right.code = .ref c_law_right
  tb_law_right : LamX.TabB base mg c_law_right p_law_right
  c_law_large_right : Addr
  p_law_large_right : Addr
  at_law_large_right : T.fd_law_large_right.code = .ref c_law_large_right
  tb_law_large_right : LamX.TabB base mg c_law_large_right p_law_large_right
  ne_law_right_law_large_right : p_law_right ≠ p_law_large_right
  sysb : CG.SysB base
def TL.tabs {K : PySem.W.Frag} {mg : Str → Option Value} {T : TX K mg} {base : Heap} (L : TL T base) : List (Addr × Str) := [(L.p_law_right, ("_law_right.<locals>.<lambda>" : Str)), (L.p_law_large_right, ("_law_large_right.<locals>.<lambda>" : Str))]
theorem TL.hm_law_right {K : PySem.W.Frag} {mg : Str → Option Value} {T : TX K mg} {base : Heap} (L : TL T base) : (L.p_law_right, ("_law_right.<locals>.<lambda>" : Str)) ∈ L.tabs := .head _
theorem TL.one_law_right {K : PySem.W.Frag} {mg : Str → Option Value} {T : TX K mg} {base : Heap} (L : TL T base) : ∀ p ∈ L.tabs, p.1 = L.p_law_right → p.2 = ("_law_right.<locals>.<lambda>" : Str) := fun p hp e => by
  simp only [TL.tabs, List.mem_cons, List.not_mem_nil, or_false] at hp
  rcases hp with rfl | rfl
  · rfl
  · exact absurd e.symm L.ne_law_right_law_large_right
theorem TL.hm_law_large_right {K : PySem.W.Frag} {mg : Str → Option Value} {T : TX K mg} {base : Heap} (L : TL T base) : (L.p_law_large_right, ("_law_large_right.<locals>.<lambda>" : Str)) ∈ L.tabs := .tail _ (.head _)
theorem TL.one_law_large_right {K : PySem.W.Frag} {mg : Str → Option Value} {T : TX K mg} {base : Heap} (L : TL T base) : ∀ p ∈ L.tabs, p.1 = L.p_law_large_right → p.2 = ("_law_large_right.<locals>.<lambda>" : Str) := fun p hp e => by
  simp only [TL.tabs, List.mem_cons, List.not_mem_nil, or_false] at hp
  rcases hp with rfl | rfl
  · exact absurd e L.ne_law_right_law_large_right
  · rfl
/-- not an int (a bool is none) -/
def NotI (K : PySem.W.Frag) (H : Hp) (x : V) : Prop := ∃ t b1 b2, TyX K H x t ∧ PySem.W.kitOne K t (.type "int") = some b1 ∧ PySem.W.kitOne K t (.type "bool") = some b2 ∧ (b1 && !b2) = false
/-- what x is, if an int -/
def IsI (K : PySem.W.Frag) (H : Hp) (x : V) : Option Int → Prop
  | some i => x = .int i
  | none => NotI K H x
def atLeast : Option Int → Int → Bool
  | some i, low => decide (low ≤ i)
  | none, _ => false
def between : Option Int → Int → Int → Bool
  | some i, low, high => decide (low ≤ i) && decide (i ≤ high)
  | none, _, _ => false

section
variable {P : Program} {w : World} {K : PySem.W.Frag} {mg : Str → Option Value} {base : Heap}
def sp_is_integer (K : PySem.W.Frag) : Sp := fun vs H Q _ => ∃ x o, vs = [x] ∧ IsI K H x o ∧ Q (.bl o.isSome) H
theorem ok_is_integer (T : TX K mg) : FnOk P w K mg base CX0 1 T.f_is_integer T.fd_is_integer ["value"] (sp_is_integer K) := by
  refine T.F_is_integer.ok sc_is_integer (fun vs H Q E h => ?_) (fun cdv A outer s H vs Q E hr h => ?_)
  · obtain ⟨x, o, rfl, _⟩ := h
    rfl
  · obtain ⟨x, o, rfl, hx, k⟩ := h
    refine ⟨_, (pss_one (ps_ret (pe_and (pe_callB call_isi (by rfl) T.z_isinstance (by decide +kernel) (pa_cons (pv 0) (pa_cons (pe_bltn (v := .ty "int") rfl T.z_int (by decide +kernel) rfl) pa_nil))) (pe_one (pe_not (pe_callB call_isi (by rfl) T.z_isinstance (by decide +kernel) (pa_cons (pv 0) (pa_cons (pe_bltn (v := .ty "bool") rfl T.z_bool (by decide +kernel) rfl) pa_nil)))))))), ?_⟩
    cases o with
    | some i =>
      cases hx
      exact ⟨_, rfl, _, _, _, _, true, rfl, .ty _, .base (.int i), kit_ty (by decide +kernel), _, rfl, _, rfl, _, _, _, _, false, rfl, .ty _, .base (.int i), kit_ty (by decide +kernel), _, rfl, k⟩
    | none =>
      obtain ⟨t, b1, b2, ht, h1, h2, hb⟩ := hx
      refine ⟨_, rfl, _, _, _, _, b1, rfl, .ty _, ht, h1, _, rfl, ?_⟩
      cases b1 with
      | false => exact k
      | true =>
        refine ⟨_, rfl, _, _, _, _, b2, rfl, .ty _, ht, h2, _, rfl, ?_⟩
        have e : (!b2) = false := hb
        rw [e]
        exact k
def sp_is_at_least (K : PySem.W.Frag) : Sp := fun vs H Q _ => ∃ x o low, vs = [x, .int low] ∧ IsI K H x o ∧ Q (.bl (atLeast o low)) H
theorem ok_is_at_least (T : TX K mg) : FnOk P w K mg base CX0 2 T.f_is_at_least T.fd_is_at_least ["value", "low"] (sp_is_at_least K) := by
  refine T.F_is_at_least.ok sc_is_at_least (fun vs H Q E h => ?_) (fun cdv A outer s H vs Q E hr h => ?_)
  · obtain ⟨x, o, low, rfl, _⟩ := h
    rfl
  · obtain ⟨x, o, low, rfl, hx, k⟩ := h
    refine ⟨_, (pss_one (ps_ret (pe_and (pe_call (ok_is_integer T) hr rfl T.m_is_integer T.F_is_integer.kp T.b_is_integer .nil pass0 (pa_cons (pv 0) pa_nil)) (pe_one (pe_cmpR op_ge (pv 0) (pv 1) (nomark _)))))), ?_⟩
    refine ⟨_, rfl, x, o, rfl, hx, _, rfl, ?_⟩
    cases o with
    | none => exact k
    | some i =>
      cases hx
      exact ⟨_, rfl, _, rfl, _, _, rfl, rfl, k⟩
def sp_is_between (K : PySem.W.Frag) : Sp := fun vs H Q _ => ∃ x o low high, vs = [x, .int low, .int high] ∧ IsI K H x o ∧ Q (.bl (between o low high)) H
theorem ok_is_between (T : TX K mg) : FnOk P w K mg base CX0 2 T.f_is_between T.fd_is_between ["value", "low", "high"] (sp_is_between K) := by
  refine T.F_is_between.ok sc_is_between (fun vs H Q E h => ?_) (fun cdv A outer s H vs Q E hr h => ?_)
  · obtain ⟨x, o, low, high, rfl, _⟩ := h
    rfl
  · obtain ⟨x, o, low, high, rfl, hx, k⟩ := h
    refine ⟨_, (pss_one (ps_ret (pe_and (pe_call (ok_is_integer T) hr rfl T.m_is_integer T.F_is_integer.kp T.b_is_integer .nil pass0 (pa_cons (pv 0) pa_nil)) (pe_one (pe_chain op_le op_le (pv 1) (pv 0) (pv 2)))))), ?_⟩
    refine ⟨_, rfl, x, o, rfl, hx, _, rfl, ?_⟩
    cases o with
    | none => exact k
    | some i =>
      cases hx
      refine ⟨_, rfl, _, rfl, _, _, rfl, rfl, _, rfl, ?_⟩
      refine ite2 (fun c => ?_) (fun c => ?_)
      · have c1 : low ≤ i := of_decide_eq_true c
        refine ⟨_, rfl, _, _, rfl, rfl, ?_⟩
        have e : between (some i) low high = decide (i ≤ high) := by show (decide (low ≤ i) && decide (i ≤ high)) = _; rw [c]; rfl
        rw [e] at k
        exact k
      · have e : between (some i) low high = false := by show (decide (low ≤ i) && decide (i ≤ high)) = _; rw [Bool.eq_false_iff.mpr c]; rfl
        rw [e] at k
        exact k
end

/-- a table of these sizes stands at a -/
def TabAt (C : Addr) (H : Hp) (a : Addr) (ns : List Int) : Prop := ∃ dx t, H a = some (.ins C dx [("rings", .ref t)]) ∧ H t = some (.tup (ns.map V.int))
theorem TabAt.mono {C : Addr} {H H2 : Hp} {a : Addr} {ns : List Int} (e : Ex H H2) (h : TabAt C H a ns) : TabAt C H2 a ns := by
  obtain ⟨dx, t, h1, h2⟩ := h
  exact ⟨dx, t, e _ _ h1, e _ _ h2⟩
/-- a tracked list (false) or tuple (true) -/
def SqH (H : Hp) (p : Bool × Addr) (xs : List V) : Prop := if p.1 = true then H p.2 = some (.tup xs) else H p.2 = some (.lst xs)
theorem SqH.sq {K : PySem.W.Frag} {H : Hp} {p : Bool × Addr} {xs : List V} (h : SqH H p xs) : CZ.SqK K H p xs := by
  obtain ⟨b, a⟩ := p
  cases b
  · exact SqL.of (show H a = some (.lst xs) from h)
  · exact SqT.of (show H a = some (.tup xs) from h)
theorem SqH.mono {H H2 : Hp} {p : Bool × Addr} {xs : List V} (e : Ex H H2) (h : SqH H p xs) : SqH H2 p xs := by
  obtain ⟨b, a⟩ := p
  cases b
  · exact e _ _ (show H a = some (.lst xs) from h)
  · exact e _ _ (show H a = some (.tup xs) from h)
theorem SqH.ty {K : PySem.W.Frag} {H : Hp} {p : Bool × Addr} {xs : List V} (h : SqH H p xs) : TyX K H (.ref p.2) (.type (if p.1 = true then "tuple" else "list")) := by
  obtain ⟨b, a⟩ := p
  cases b
  · exact .base (.lst (show H a = some (.lst xs) from h))
  · exact .base (.tup (show H a = some (.tup xs) from h))
/-- sizes of a table -/
structure SzOk (ns : List Int) : Prop where
  pos : ns ≠ []
  le : ns.length ≤ 4
  one : ∀ n ∈ ns, 1 ≤ n
theorem len_line {α : Type} {l : List α} (h : l.length ≤ 4) : l.length ≤ sizeLine := Nat.le_trans h (by decide)
theorem take_lt {α : Type} {l : List α} (h : l.length ≤ 1000) (i : Nat) : (l.take i).length < sizeLine := by
  rw [List.length_take]
  exact Nat.lt_of_le_of_lt (Nat.le_trans (Nat.min_le_right _ _) h) (by decide)
theorem take_more {α : Type} {l : List α} {i : Nat} {x : α} (h : l[i]? = some x) : l.take (i + 1) = l.take i ++ [x] := by
  rw [List.take_add_one, h]
  rfl
theorem kit_seq {K : PySem.W.Frag} (b : Bool) : PySem.W.kitAny K (.type (if b = true then "tuple" else "list")) [.type "list", .type "tuple"] = some true := by
  cases b
  · exact kitAny_cons (b := true) (kit_ty (by decide +kernel)) (fun h => nomatch h) (fun _ => rfl)
  · exact kitAny_cons (b := false) (kit_ty (by decide +kernel)) (fun _ => kitAny_cons (b := true) (kit_ty (by decide +kernel)) (fun h => nomatch h) (fun _ => rfl)) (fun h => nomatch h)
theorem sq_or {K : PySem.W.Frag} {H : Hp} {b : Bool} {a : Addr} {xs : List V} (h : SqH H (b, a) xs) : SqL K H a xs ∨ SqT K H a xs := by
  cases b
  · exact .inl (SqL.of (show H a = some (.lst xs) from h))
  · exact .inr (SqT.of (show H a = some (.tup xs) from h))
section
variable {P : Program} {w : World} {K : PySem.W.Frag} {mg : Str → Option Value} {base : Heap}
def sp_Table_init (C : Addr) : Sp := fun vs H Q _ => ∃ (p dx : Addr) (q : Bool × Addr) (ns : List Int), vs = [.ref p, .ref q.2] ∧ H p = some (.ins C dx []) ∧ SqH H q (ns.map V.int) ∧ SzOk ns ∧
  ∀ H2, (∀ c o, c ≠ p → H c = some o → H2 c = some o) → (∃ t, H2 p = some (.ins C dx [("rings", .ref t)]) ∧ H2 t = some (.tup (ns.map V.int))) → Q .non H2
theorem ok_Table_init (T : TX K mg) : FnOk P w K mg base CX0 3 T.f_Table_init T.fd_Table_init ["self", "rings"] (sp_Table_init T.C_Table) := by
  refine T.F_Table_init.ok sc_Table_init (fun vs H Q E h => ?_) (fun cdv A outer s H vs Q E hr h => ?_)
  · obtain ⟨p, dx, q, ns, rfl, _⟩ := h
    rfl
  · obtain ⟨p, dx, ⟨b, a⟩, ns, rfl, hp, hq, ok, k⟩ := h
    refine ⟨_, (pss_cons (ps_if (PW.pt (pw_or (pt_not (pt_val (pe_callB call_isiT (by rfl) T.z_isinstance (by decide +kernel) (pa_cons (pv 1) (pa_cons (pe_tup (pa_cons (pe_bltn (v := .ty "list") rfl T.z_list (by decide +kernel) rfl) (pa_cons (pe_bltn (v := .ty "tuple") rfl T.z_tuple (by decide +kernel) rfl) pa_nil))) pa_nil))))) (pw_or1 (pt_not (pt_chain op_le op_le pe_int (pe_callB call_len_seq (by rfl) T.z_len (by decide +kernel) (pa_cons (pv 1) pa_nil)) (pe_glob (v := .int 4) rfl T.c_MAX_RINGS ⟨_, rfl⟩)))))) pss_never pss_nil) (pss_cons (ps_if (pt_not (pt_val (pe_callB (cr_all rfl) (by rfl) T.z_all (by decide +kernel) (pa_cons (pe_lc (own := [("size", 2)]) (g := (gName 2)) rfl sc_Table_init.nd (pi_seq (pv 1)) (blkOk_by (N := N_Table_init) (sc := defScope s_Table_init) (by decide +kernel)) (fun _ _ _ _ _ => (pg_name (i := 2) sc_Table_init.nd rfl (Or.inl rfl))) (fun _ _ _ _ _ => pts_nil) (fun _ _ _ _ _ => (pe_call (ok_is_at_least T) hr rfl T.m_is_at_least T.F_is_at_least.kp T.b_is_at_least .nil pass0 (pa_cons (pv 2) (pa_cons pe_int pa_nil))))) pa_nil)))) pss_never pss_nil) (pss_one (ps_fld (pv 0) (pe_callTy call_tuple_of (by rfl) T.z_tuple (by decide +kernel) (pa_cons (pv 1) pa_nil)) rfl)))), ?_⟩
    refine ⟨_, rfl, by show 2 ≤ sizeLine; decide, fun y hy => ?_⟩
    refine ⟨_, y, _, _, _, true, rfl, upd_same, .cons (.ty _) (.cons (.ty _) .nil), (hq.mono (exn hy)).ty, kit_seq b, _, rfl, iteF ?_⟩
    have q1 := hq.mono (exn (o := .tup [.ty "list", .ty "tuple"]) hy)
    have lp : 1 ≤ ns.length := List.length_pos_iff.mpr ok.pos
    have l4 := ok.le
    refine ⟨_, rfl, a, _, rfl, sq_or q1, _, _, rfl, rfl, _, rfl, itt (decide_eq_true (by rw [List.length_map]; omega)) ?_⟩
    refine ⟨_, _, rfl, rfl, _, rfl, itf ?_ ?_⟩
    · rw [List.length_map, decide_eq_true (by omega)]
      rfl
    · have all1 : (ns.map fun n => atLeast (some n) 1).all id = true := by
        rw [List.all_map, List.all_eq_true]
        exact fun n hn => decide_eq_true (ok.one n hn)
      refine ⟨_, rfl, (b, a), rfl, ⟨_, q1.sq⟩, fun D hD => ?_⟩
      refine lc_vals walk_seq ((ns.map fun n => atLeast (some n) 1).map V.bl) (by simp) (by rw [List.length_map]; omega) hD (fun H3 e => (q1.mono e).sq) ?_ gmono_name ?_
      · intro i x H3 H4 R hi e yy kk
        obtain ⟨rfl, hx⟩ := yy
        obtain ⟨n, hn, rfl⟩ := map_get hx
        exact ⟨rfl, _, rfl, _, some n, 1, rfl, rfl, kk _ _ exr (by simp [hn])⟩
      · intro H3 e hD3
        have hp3 := e _ _ (exn hy _ _ hp)
        have q3 := q1.mono e
        have ex3 : Ex H H3 := fun c o z => e _ _ (exn hy _ _ z)
        refine ⟨D, _, rfl, SqL.of hD3, _, rfl, itf (by rw [all1]; rfl) ?_⟩
        cases b with
        | false =>
          refine ⟨_, rfl, a, _, rfl, .inl ⟨SqL.of q3, fun l hl => ?_⟩⟩
          have npl : p ≠ l := ne_of_none hp3 hl
          refine ⟨_, rfl, p, _, dx, _, rfl, (by rw [upd_ne npl]; exact hp3), T.cl_Table, T.n_Table_rings, (by show 0 < 1000; decide), ?_⟩
          refine k _ (fun c o hc z => ?_) ⟨l, upd_same, by rw [upd_ne npl.symm, upd_same]⟩
          rw [upd_ne hc, upd_ne (ne_of_none (ex3 c o z) hl)]
          exact ex3 c o z
        | true =>
          refine ⟨_, rfl, a, _, rfl, .inr ⟨SqT.of q3, ?_⟩⟩
          refine ⟨_, rfl, p, _, dx, _, rfl, hp3, T.cl_Table, T.n_Table_rings, (by show 0 < 1000; decide), ?_⟩
          have q3 : H3 a = some (.tup (ns.map V.int)) := q3
          refine k _ (fun c o hc z => ?_) ⟨a, upd_same, by rw [upd_ne (ne_of q3 hp3 (by intro z; cases z))]; exact q3⟩
          rw [upd_ne hc]
          exact ex3 c o z
end

theorem TyX.mono {K : PySem.W.Frag} {H H2 : Hp} {x : V} {t : Value} (e : Ex H H2) (h : TyX K H x t) : TyX K H2 x t := by
  cases h with
  | base h =>
    cases h with
    | non => exact .base .non
    | bl x => exact .base (.bl x)
    | int x => exact .base (.int x)
    | str x => exact .base (.str x)
    | flt x => exact .base (.flt x)
    | lst h => exact .base (.lst (e _ _ h))
    | frz h => exact .base (.frz (e _ _ h))
    | tup h => exact .base (.tup (e _ _ h))
    | dK h => exact .base (.dK (e _ _ h))
    | dT h => exact .base (.dT (e _ _ h))
    | ins h a b c d f => exact .base (.ins (e _ _ h) a b c d f)
  | byt b => exact .byt b
  | set h => exact .set (e _ _ h)
  | kList a b => exact .kList a b
  | kTuple a b => exact .kTuple a b
  | kDict a b => exact .kDict a b
  | fTuple h => exact .fTuple (e _ _ h)
  | fDict h => exact .fDict (e _ _ h)
theorem IsI.mono {K : PySem.W.Frag} {H H2 : Hp} {x : V} {o : Option Int} (e : Ex H H2) (h : IsI K H x o) : IsI K H2 x o := by
  cases o with
  | some i => exact h
  | none =>
    obtain ⟨t, b1, b2, ht, r⟩ := h
    exact ⟨t, b1, b2, TyX.mono e ht, r⟩
theorem paired_get {α β : Type} {R : α → β → Prop} : ∀ {l : List α} {m : List β} {i : Nat} {x : α}, Paired R l m → l[i]? = some x → ∃ y, m[i]? = some y ∧ R x y
  | _, _, _, _, .nil, h => by simp at h
  | _, _, 0, _, .cons r _, h => by simp at h; subst h; exact ⟨_, rfl, r⟩
  | _, _, i + 1, x, .cons _ t, h => by
    obtain ⟨y, h1, h2⟩ := paired_get (i := i) (x := x) t (by simpa using h)
    exact ⟨y, by simpa using h1, h2⟩
/-- what an argument is as a tuple: its items, as ints or not -/
def TupA (K : PySem.W.Frag) (H : Hp) (x : V) : Option (List (Option Int)) → Prop
  | some os => ∃ a xs, x = .ref a ∧ H a = some (.tup xs) ∧ xs.length ≤ 1000 ∧ Paired (IsI K H) xs os
  | none => ∃ t, TyX K H x t ∧ PySem.W.kitOne K t (.type "tuple") = some false
theorem paired_ints {K : PySem.W.Frag} {H : Hp} : ∀ ps : List Int, Paired (IsI K H) (ps.map V.int) (ps.map some)
  | [] => .nil
  | p :: ps => .cons rfl (paired_ints ps)
theorem TupA.ints {K : PySem.W.Frag} {H : Hp} {a : Addr} {ps : List Int} (h : H a = some (.tup (ps.map V.int))) (hl : ps.length ≤ 1000) : TupA K H (.ref a) (some (ps.map some)) :=
  ⟨a, _, rfl, h, by rw [List.length_map]; exact hl, paired_ints ps⟩
def isSeatO (ns : List Int) : Option (List (Option Int)) → Bool
  | some os => decide (os.length = ns.length) && (List.zipWith (fun o n => between o 0 (n - 1)) os ns).all id
  | none => false
def isCallO (ns : List Int) : Option (List (Option Int)) → Bool
  | some os => decide (os.length = ns.length) && (os.map Option.isSome).all id
  | none => false
/-- a seat: one place a ring -/
def SeatOk : List Int → List Int → Prop
  | n :: ns, p :: ps => (0 ≤ p ∧ p < n) ∧ SeatOk ns ps
  | [], [] => True
  | _, _ => False
theorem SeatOk.len : ∀ {ns ps : List Int}, SeatOk ns ps → ps.length = ns.length
  | [], [], _ => rfl
  | _ :: _, _ :: _, h => by
    show _ + 1 = _ + 1
    rw [SeatOk.len h.2]
theorem seat_is : ∀ {ns ps : List Int}, SeatOk ns ps → (List.zipWith (fun o n => between o 0 (n - 1)) (ps.map some) ns).all id = true
  | [], [], _ => rfl
  | n :: ns, p :: ps, h => by
    have ih := seat_is h.2
    show (between (some p) 0 (n - 1) && _) = true
    rw [Bool.and_eq_true]
    refine ⟨?_, ih⟩
    show (decide (0 ≤ p) && decide (p ≤ n - 1)) = true
    rw [decide_eq_true h.1.1, decide_eq_true (by have := h.1.2; omega)]
    rfl
theorem isSeat_ok {ns ps : List Int} (h : SeatOk ns ps) : isSeatO ns (some (ps.map some)) = true := by
  show (decide ((ps.map some).length = ns.length) && _) = true
  rw [Bool.and_eq_true]
  exact ⟨decide_eq_true (by rw [List.length_map]; exact h.len), seat_is h⟩
theorem isCall_ok {ns cs : List Int} (h : cs.length = ns.length) : isCallO ns (some (cs.map some)) = true := by
  show (decide ((cs.map some).length = ns.length) && _) = true
  rw [Bool.and_eq_true]
  refine ⟨decide_eq_true (by rw [List.length_map]; exact h), ?_⟩
  rw [List.map_map, List.all_map, List.all_eq_true]
  exact fun _ _ => rfl
/-- a step by a multiple of a call -/
def shiftL : List Int → List Int → List Int → Int → List Int
  | n :: ns, p :: ps, c :: cs, f => (p + f * c) % n :: shiftL ns ps cs f
  | _, _, _, _ => []
theorem shift_len : ∀ {ns ps cs : List Int} {f : Int}, ps.length = ns.length → cs.length = ns.length → (shiftL ns ps cs f).length = ns.length
  | [], _, _, _, _, _ => by simp [shiftL]
  | _ :: ns, p :: ps, c :: cs, f, h1, h2 => by
    have ih := @shift_len ns ps cs f (by simpa using h1) (by simpa using h2)
    show (shiftL ns ps cs f).length + 1 = _ + 1
    rw [ih]
theorem shift_get : ∀ {ns ps cs : List Int} {f : Int} {i : Nat} {n p c : Int}, ns[i]? = some n → ps[i]? = some p → cs[i]? = some c → (shiftL ns ps cs f)[i]? = some ((p + f * c) % n)
  | n :: ns, p :: ps, c :: cs, f, 0, _, _, _, h1, h2, h3 => by
    simp at h1 h2 h3
    subst h1 h2 h3
    rfl
  | n :: ns, p :: ps, c :: cs, f, i + 1, a, b, d, h1, h2, h3 => by
    have ih := @shift_get ns ps cs f i a b d (by simpa using h1) (by simpa using h2) (by simpa using h3)
    show (shiftL ns ps cs f)[i]? = _
    exact ih
  | [], _, _, _, i, _, _, _, h1, _, _ => by simp at h1
  | _ :: _, [], _, _, i, _, _, _, _, h2, _ => by simp at h2
  | _ :: _, _ :: _, [], _, i, _, _, _, _, _, h3 => by simp at h3
theorem mul_ok {i j : Int} (h : (-(2 ^ 64) < i ∧ i < 2 ^ 64) ∨ (-(2 ^ 64) < j ∧ j < 2 ^ 64)) : IntMulOk i j := CMul.ok h
theorem zip_get {α β γ : Type} {f : α → β → γ} {l : List α} {m : List β} {i : Nat} {x : α} {y : β} (h1 : l[i]? = some x) (h2 : m[i]? = some y) : (List.zipWith f l m)[i]? = some (f x y) := by
  rw [List.getElem?_zipWith, h1, h2]
section
variable {P : Program} {w : World} {K : PySem.W.Frag} {mg : Str → Option Value} {base : Heap}
def sp_Table_sizes (C : Addr) : Sp := fun vs H Q _ => ∃ (a dx t : Addr), vs = [.ref a] ∧ H a = some (.ins C dx [("rings", .ref t)]) ∧ Q (.ref t) H
theorem ok_Table_sizes (T : TX K mg) : FnOk P w K mg base CX0 1 T.f_Table_sizes T.fd_Table_sizes ["self"] (sp_Table_sizes T.C_Table) := by
  refine T.F_Table_sizes.ok sc_Table_sizes (fun vs H Q E h => ?_) (fun cdv A outer s H vs Q E hr h => ?_)
  · obtain ⟨a, dx, t, rfl, _⟩ := h
    rfl
  · obtain ⟨a, dx, t, rfl, h1, k⟩ := h
    exact ⟨_, (pss_one (ps_ret (pe_fld (pv 0) rfl))), ⟨_, rfl, a, _, dx, _, _, rfl, h1, T.cl_Table, T.n_Table_rings, rfl, k⟩⟩
def sp_Table_is_seat (K : PySem.W.Frag) (C : Addr) : Sp := fun vs H Q _ => ∃ (a : Addr) (x : V) (ns : List Int) (ot : Option (List (Option Int))), vs = [.ref a, x] ∧ TabAt C H a ns ∧ ns.length ≤ 4 ∧ TupA K H x ot ∧ ∀ H2, Ex H H2 → Q (.bl (isSeatO ns ot)) H2
theorem ok_Table_is_seat (T : TX K mg) : FnOk P w K mg base CX0 3 T.f_Table_is_seat T.fd_Table_is_seat ["self", "value"] (sp_Table_is_seat K T.C_Table) := by
  refine T.F_Table_is_seat.ok sc_Table_is_seat (fun vs H Q E h => ?_) (fun cdv A outer s H vs Q E hr h => ?_)
  · obtain ⟨a, x, ns, ot, rfl, _⟩ := h
    rfl
  · obtain ⟨a, x, ns, ot, rfl, ⟨dx, t, h1, h2⟩, l4, hx, k⟩ := h
    refine ⟨_, (pss_cons (ps_if (PW.pt (pw_or (pt_not (pt_val (pe_callB call_isi (by rfl) T.z_isinstance (by decide +kernel) (pa_cons (pv 1) (pa_cons (pe_bltn (v := .ty "tuple") rfl T.z_tuple (by decide +kernel) rfl) pa_nil))))) (pw_or1 (pt_cmpR op_ne (pe_callB call_len_seq (by rfl) T.z_len (by decide +kernel) (pa_cons (pv 1) pa_nil)) (pe_callB call_len_seq (by rfl) T.z_len (by decide +kernel) (pa_cons (pe_fld (pv 0) rfl) pa_nil)) (nomark _))))) (pss_one (ps_ret pe_bl)) pss_nil) (pss_one (ps_ret (pe_callB (cr_all rfl) (by rfl) T.z_all (by decide +kernel) (pa_cons (pe_lc (own := [("place", 2), ("size", 3)]) (g := (gTup K 2 (gCons (gName 2) (gCons (gName 3) gNil)))) rfl sc_Table_is_seat.nd (CZ.pi_z2s (fl := [true, true]) rfl (by rfl) T.z_zip (pa_cons (pv 1) (pa_cons (pe_fld (pv 0) rfl) pa_nil))) (blkOk_by (N := N_Table_is_seat) (sc := defScope s_Table_is_seat) (by decide +kernel)) (fun _ _ _ _ _ => (pg_tup rfl (pgs_cons (pg_name (i := 2) sc_Table_is_seat.nd rfl (Or.inl rfl)) (pgs_cons (pg_name (i := 3) sc_Table_is_seat.nd rfl (Or.inl rfl)) pgs_nil)))) (fun _ _ _ _ _ => pts_nil) (fun _ _ _ _ _ => (pe_call (ok_is_between T) hr rfl T.m_is_between T.F_is_between.kp T.b_is_between .nil pass0 (pa_cons (pv 2) (pa_cons pe_int (pa_cons (pe_op op_sub (pv 3) pe_int) pa_nil)))))) pa_nil))))), ?_⟩
    cases ot with
    | none =>
      obtain ⟨ty, hty, hk⟩ := hx
      exact ⟨_, rfl, _, _, _, _, false, rfl, .ty _, hty, hk, _, rfl, k _ exr⟩
    | some os =>
      obtain ⟨v, xs, rfl, hv, hl, hp⟩ := hx
      have lo : xs.length = os.length := Paired.length hp
      refine ⟨_, rfl, _, _, _, _, true, rfl, .ty _, .base (.tup hv), kit_ty (by decide +kernel), _, rfl, iteF ?_⟩
      refine ⟨_, rfl, v, _, rfl, .inr (SqT.of hv), _, rfl, a, _, dx, _, _, rfl, h1, T.cl_Table, T.n_Table_rings, rfl, t, _, rfl, .inr (SqT.of h2), rfl, _, rfl, ?_⟩
      by_cases c : os.length = ns.length
      · refine itf ?_ ?_
        · rw [List.length_map, lo, c]
          simp
        · refine ⟨_, rfl, _, rfl, a, _, dx, _, _, rfl, h1, T.cl_Table, T.n_Table_rings, rfl, [v, t], rfl, rfl, ?_, fun D hD => ?_⟩
          · intro p hp2
            rcases List.mem_cons.mp (show p ∈ [(true, v), (true, t)] from hp2) with e | e
            · rw [e]; exact ⟨xs, SqT.of hv⟩
            · rw [List.mem_singleton.mp e]; exact ⟨_, SqT.of h2⟩
          · have lv : (List.zipWith (fun o n => between o 0 (n - 1)) os ns).length = ns.length := by rw [List.length_zipWith, c, Nat.min_self]
            refine lc_vals (CZ.walk_rows (xss := [xs, ns.map V.int]) (n := ns.length) ?_) ((List.zipWith (fun o n => between o 0 (n - 1)) os ns).map V.bl) (by rw [List.length_map, lv]) (by omega) hD (fun H3 e => .cons (SqT.of (e _ _ hv)) (.cons (SqT.of (e _ _ h2)) .nil)) ?_ (gmono_tup (gmono_cons gmono_name (gmono_cons gmono_name gmono_nil))) ?_
            · intro ys hy
              rcases List.mem_cons.mp hy with e | e
              · rw [e, lo, c]
              · rw [List.mem_singleton.mp e, List.length_map]
            · intro i y H3 H4 R hi e yy kk
              obtain ⟨Ta, vs, rfl, hT, rfl, hr2⟩ := yy
              cases hr2 with
              | cons r1 hr2 =>
                cases hr2 with
                | cons r2 hr2 =>
                  cases hr2
                  obtain ⟨n, hn, rfl⟩ := map_get r2
                  obtain ⟨o, ho, hi2⟩ := paired_get hp r1
                  refine ⟨Ta, _, rfl, SqT.of upd_same, rfl, _, _, rfl, _, _, rfl, rfl, rfl, ?_⟩
                  refine ⟨_, rfl, _, rfl, _, _, rfl, rfl, _, o, 0, n - 1, rfl, hi2.mono (fun b u z => exn hT b u (e b u z)), ?_⟩
                  refine kk _ _ (exn hT) ?_
                  rw [List.getElem?_map, zip_get ho hn]
                  rfl
            · intro H3 e hD3
              refine ⟨D, _, rfl, SqL.of hD3, ?_⟩
              have es : isSeatO ns (some os) = (List.zipWith (fun o n => between o 0 (n - 1)) os ns).all id := by
                show (decide _ && _) = _
                rw [decide_eq_true c, Bool.true_and]
              rw [← es]
              exact k _ e
      · refine itt ?_ ?_
        · rw [List.length_map, lo]
          simp
          omega
        · have es : isSeatO ns (some os) = false := by
            show (decide _ && _) = _
            rw [decide_eq_false c, Bool.false_and]
          have := k _ exr
          rw [es] at this
          exact this
end

/-- what an argument is as a text -/
def StrA (K : PySem.W.Frag) (H : Hp) (x : V) : Option Str → Prop
  | some z => x = .str z
  | none => ∃ t, TyX K H x t ∧ PySem.W.kitOne K t (.type "str") = some false
def isDirO : Option Str → Bool
  | some z => decide (z = "forward") || decide (z = "backward")
  | none => false
theorem tup_ge {xs : List V} (h : xs.length ≤ 4) : xs.length ≤ sizeLine := Nat.le_trans h (by decide)
section
variable {P : Program} {w : World} {K : PySem.W.Frag} {mg : Str → Option Value} {base : Heap}
def sp_Table_is_call (K : PySem.W.Frag) (C : Addr) : Sp := fun vs H Q _ => ∃ (a : Addr) (x : V) (ns : List Int) (ot : Option (List (Option Int))), vs = [.ref a, x] ∧ TabAt C H a ns ∧ TupA K H x ot ∧ ∀ H2, Ex H H2 → Q (.bl (isCallO ns ot)) H2
theorem ok_Table_is_call (T : TX K mg) : FnOk P w K mg base CX0 2 T.f_Table_is_call T.fd_Table_is_call ["self", "value"] (sp_Table_is_call K T.C_Table) := by
  refine T.F_Table_is_call.ok sc_Table_is_call (fun vs H Q E h => ?_) (fun cdv A outer s H vs Q E hr h => ?_)
  · obtain ⟨a, x, ns, ot, rfl, _⟩ := h
    rfl
  · obtain ⟨a, x, ns, ot, rfl, ⟨dx, t, h1, h2⟩, hx, k⟩ := h
    refine ⟨_, (pss_one (ps_ret (pe_and (pe_callB call_isi (by rfl) T.z_isinstance (by decide +kernel) (pa_cons (pv 1) (pa_cons (pe_bltn (v := .ty "tuple") rfl T.z_tuple (by decide +kernel) rfl) pa_nil))) (pe_and (pe_cmpR op_eq (pe_callB call_len_seq (by rfl) T.z_len (by decide +kernel) (pa_cons (pv 1) pa_nil)) (pe_callB call_len_seq (by rfl) T.z_len (by decide +kernel) (pa_cons (pe_fld (pv 0) rfl) pa_nil)) (nomark _)) (pe_one (pe_callB (cr_all rfl) (by rfl) T.z_all (by decide +kernel) (pa_cons (pe_lc (own := [("one", 2)]) (g := (gName 2)) rfl sc_Table_is_call.nd (pi_tup (pv 1)) (blkOk_by (N := N_Table_is_call) (sc := defScope s_Table_is_call) (by decide +kernel)) (fun _ _ _ _ _ => (pg_name (i := 2) sc_Table_is_call.nd rfl (Or.inl rfl))) (fun _ _ _ _ _ => pts_nil) (fun _ _ _ _ _ => (pe_call (ok_is_integer T) hr rfl T.m_is_integer T.F_is_integer.kp T.b_is_integer .nil pass0 (pa_cons (pv 2) pa_nil)))) pa_nil))))))), ?_⟩
    cases ot with
    | none =>
      obtain ⟨ty, hty, hk⟩ := hx
      exact ⟨_, rfl, _, _, _, _, false, rfl, .ty _, hty, hk, _, rfl, k _ exr⟩
    | some os =>
      obtain ⟨v, xs, rfl, hv, hl, hp⟩ := hx
      have lo : xs.length = os.length := Paired.length hp
      refine ⟨_, rfl, _, _, _, _, true, rfl, .ty _, .base (.tup hv), kit_ty (by decide +kernel), _, rfl, iteT ?_⟩
      refine ⟨_, rfl, v, _, rfl, .inr (SqT.of hv), _, rfl, a, _, dx, _, _, rfl, h1, T.cl_Table, T.n_Table_rings, rfl, t, _, rfl, .inr (SqT.of h2), rfl, _, rfl, ?_⟩
      by_cases c : os.length = ns.length
      · refine itt ?_ ?_
        · rw [List.length_map, lo, c]
          simp
        · refine ⟨_, rfl, v, rfl, ⟨_, SqT.of hv⟩, fun D hD => ?_⟩
          refine lc_vals walk_tup ((os.map Option.isSome).map V.bl) (by rw [List.length_map, List.length_map, lo]) (by omega) hD (fun H3 e => SqT.of (e _ _ hv)) ?_ gmono_name ?_
          · intro i y H3 H4 R hi e yy kk
            obtain ⟨rfl, hy⟩ := yy
            obtain ⟨o, ho, hi2⟩ := paired_get hp hy
            refine ⟨rfl, _, rfl, _, o, rfl, hi2.mono e, kk _ _ exr ?_⟩
            rw [List.getElem?_map, List.getElem?_map, ho]
            rfl
          · intro H3 e hD3
            refine ⟨D, _, rfl, SqL.of hD3, ?_⟩
            have es : isCallO ns (some os) = (os.map Option.isSome).all id := by
              show (decide _ && _) = _
              rw [decide_eq_true c, Bool.true_and]
            rw [← es]
            exact k _ e
      · refine itf ?_ ?_
        · rw [List.length_map, lo]
          simp
          omega
        · have es : isCallO ns (some os) = false := by
            show (decide _ && _) = _
            rw [decide_eq_false c, Bool.false_and]
          have := k _ exr
          rw [es] at this
          exact this
def sp_Table_shifted (C : Addr) : Sp := fun vs H Q _ => ∃ (a s c : Addr) (f : Int) (ns ps cs : List Int), vs = [.ref a, .ref s, .ref c, .int f] ∧ TabAt C H a ns ∧ SzOk ns ∧ H s = some (.tup (ps.map V.int)) ∧ H c = some (.tup (cs.map V.int)) ∧ ps.length = ns.length ∧ cs.length = ns.length ∧ (f = 1 ∨ f = -1) ∧
  ∀ H2 q, Ex H H2 → H q = none → H2 q = some (.tup ((shiftL ns ps cs f).map V.int)) → Q (.ref q) H2
theorem ok_Table_shifted (T : TX K mg) : FnOk P w K mg base CX0 1 T.f_Table_shifted T.fd_Table_shifted ["self", "seat", "call", "factor"] (sp_Table_shifted T.C_Table) := by
  refine T.F_Table_shifted.ok sc_Table_shifted (fun vs H Q E h => ?_) (fun cdv A outer s H vs Q E hr h => ?_)
  · obtain ⟨a, s, c, f, ns, ps, cs, rfl, _⟩ := h
    rfl
  · obtain ⟨a, s, c, f, ns, ps, cs, rfl, ⟨dx, t, h1, h2⟩, ok, hs, hc, lp, lc, hf, k⟩ := h
    have l4 := ok.le
    refine ⟨_, (pss_one (ps_ret (pe_callTy call_tuple_of (by rfl) T.z_tuple (by decide +kernel) (pa_cons (pe_lc (own := [("place", 4), ("one", 5), ("size", 6)]) (g := (gTup K 3 (gCons (gName 4) (gCons (gName 5) (gCons (gName 6) gNil))))) rfl sc_Table_shifted.nd (CZ.pi_z3s (fl := [true, true, true]) rfl (by rfl) T.z_zip (pa_cons (pv 1) (pa_cons (pv 2) (pa_cons (pe_fld (pv 0) rfl) pa_nil)))) (blkOk_by (N := N_Table_shifted) (sc := defScope s_Table_shifted) (by decide +kernel)) (fun _ _ _ _ _ => (pg_tup rfl (pgs_cons (pg_name (i := 4) sc_Table_shifted.nd rfl (Or.inl rfl)) (pgs_cons (pg_name (i := 5) sc_Table_shifted.nd rfl (Or.inl rfl)) (pgs_cons (pg_name (i := 6) sc_Table_shifted.nd rfl (Or.inl rfl)) pgs_nil))))) (fun _ _ _ _ _ => pts_nil) (fun _ _ _ _ _ => (pe_op op_mod (pe_op op_add (pv 4) (pe_op op_mulI (pv 3) (pv 5))) (pv 6)))) pa_nil)))), ?_⟩
    refine ⟨_, rfl, _, rfl, _, rfl, a, _, dx, _, _, rfl, h1, T.cl_Table, T.n_Table_rings, rfl, [s, c, t], rfl, rfl, ?_, fun D hD => ?_⟩
    · intro p hp2
      have hp3 : p = (true, s) ∨ p = (true, c) ∨ p = (true, t) := by simpa using hp2
      rcases hp3 with e | e | e
      · rw [e]; exact ⟨_, SqT.of hs⟩
      · rw [e]; exact ⟨_, SqT.of hc⟩
      · rw [e]; exact ⟨_, SqT.of h2⟩
    · have ls : (shiftL ns ps cs f).length = ns.length := shift_len lp lc
      refine lc_vals (CZ.walk_rows (xss := [ps.map V.int, cs.map V.int, ns.map V.int]) (n := ns.length) ?_) ((shiftL ns ps cs f).map V.int) (by rw [List.length_map, ls]) (by omega) hD (fun H3 e => .cons (SqT.of (e _ _ hs)) (.cons (SqT.of (e _ _ hc)) (.cons (SqT.of (e _ _ h2)) .nil))) ?_ (gmono_tup (gmono_cons gmono_name (gmono_cons gmono_name (gmono_cons gmono_name gmono_nil)))) ?_
      · intro ys hy
        have hy2 : ys = ps.map V.int ∨ ys = cs.map V.int ∨ ys = ns.map V.int := by simpa using hy
        rcases hy2 with e | e | e
        · rw [e, List.length_map, lp]
        · rw [e, List.length_map, lc]
        · rw [e, List.length_map]
      · intro i y H3 H4 R hi e yy kk
        obtain ⟨Ta, vs, rfl, hT, rfl, hr2⟩ := yy
        cases hr2 with
        | cons r1 hr2 =>
          cases hr2 with
          | cons r2 hr2 =>
            cases hr2 with
            | cons r3 hr2 =>
              cases hr2
              obtain ⟨p, hp, rfl⟩ := map_get r1
              obtain ⟨d, hd, rfl⟩ := map_get r2
              obtain ⟨n, hn, rfl⟩ := map_get r3
              have n1 := ok.one n (List.mem_of_getElem? hn)
              refine ⟨Ta, _, rfl, SqT.of upd_same, rfl, _, _, rfl, _, _, rfl, _, _, rfl, rfl, rfl, ?_⟩
              refine ⟨_, rfl, _, rfl, _, rfl, _, _, rfl, rfl, mul_ok (.inl (by rcases hf with e | e <;> rw [e] <;> decide)), _, _, rfl, rfl, _, rfl, _, _, rfl, rfl, (by show (0 : Int) < n; omega), ?_⟩
              refine kk _ _ (exn hT) ?_
              rw [List.getElem?_map, shift_get hn hp hd]
              rfl
      · intro H3 e hD3
        exact ⟨D, _, rfl, .inl ⟨SqL.of hD3, fun q hq => k _ q (fun b o z => exn hq b o (e b o z)) (Evl.fresh_back e hq) upd_same⟩⟩
def sp_is_direction (K : PySem.W.Frag) : Sp := fun vs H Q _ => ∃ x o, vs = [x] ∧ StrA K H x o ∧ ∀ H2, Ex H H2 → Q (.bl (isDirO o)) H2
theorem ok_is_direction (T : TX K mg) : FnOk P w K mg base CX0 1 T.f_is_direction T.fd_is_direction ["value"] (sp_is_direction K) := by
  refine T.F_is_direction.ok sc_is_direction (fun vs H Q E h => ?_) (fun cdv A outer s H vs Q E hr h => ?_)
  · obtain ⟨x, o, rfl, _⟩ := h
    rfl
  · obtain ⟨x, o, rfl, hx, k⟩ := h
    refine ⟨_, (pss_one (ps_ret (pe_and (pe_callB call_isi (by rfl) T.z_isinstance (by decide +kernel) (pa_cons (pv 0) (pa_cons (pe_bltn (v := .ty "str") rfl T.z_str (by decide +kernel) rfl) pa_nil))) (pe_one (pe_cmpR op_in_seq (pv 0) (pe_tup (pa_cons pe_str (pa_cons pe_str pa_nil))) rfl))))), ?_⟩
    cases o with
    | none =>
      obtain ⟨t, ht, hk⟩ := hx
      exact ⟨_, rfl, _, _, _, _, false, rfl, .ty _, ht, hk, _, rfl, k _ exr⟩
    | some z =>
      cases hx
      refine ⟨_, rfl, _, _, _, _, true, rfl, .ty _, .base (.str z), kit_ty (by decide +kernel), _, rfl, iteT ?_⟩
      refine ⟨_, rfl, by show 2 ≤ sizeLine; decide, fun p hp => ?_⟩
      refine ⟨p, _, rfl, .inr (SqT.of upd_same), rfl, rfl, ?_⟩
      have es : (if false = true then !inV (V.str z) [V.str "forward", V.str "backward"] else inV (V.str z) [V.str "forward", V.str "backward"]) = isDirO (some z) := by
        rw [if_neg Bool.false_ne_true]
        show (eqV (V.str "forward") (V.str z) || (eqV (V.str "backward") (V.str z) || false)) = (decide (z = "forward") || decide (z = "backward"))
        have h1 : eqV (V.str "forward") (V.str z) = decide (z = "forward") := by
          show decide (("forward" : Str) = z) = _
          exact decide_eq_decide.mpr ⟨Eq.symm, Eq.symm⟩
        have h2 : eqV (V.str "backward") (V.str z) = decide (z = "backward") := by
          show decide (("backward" : Str) = z) = _
          exact decide_eq_decide.mpr ⟨Eq.symm, Eq.symm⟩
        rw [h1, h2, Bool.or_false]
      rw [es]
      exact k _ (exn hp)
def sp_require_seat (K : PySem.W.Frag) (C : Addr) : Sp := fun vs H Q _ => ∃ (a : Addr) (x : V) (ns : List Int) (ot : Option (List (Option Int))), vs = [.ref a, x] ∧ TabAt C H a ns ∧ ns.length ≤ 4 ∧ TupA K H x ot ∧ isSeatO ns ot = true ∧ ∀ H2, Ex H H2 → Q .non H2
theorem ok_require_seat (T : TX K mg) : FnOk P w K mg base CX0 4 T.f_require_seat T.fd_require_seat ["table", "seat"] (sp_require_seat K T.C_Table) := by
  refine T.F_require_seat.ok sc_require_seat (fun vs H Q E h => ?_) (fun cdv A outer s H vs Q E hr h => ?_)
  · obtain ⟨a, x, ns, ot, rfl, _⟩ := h
    rfl
  · obtain ⟨a, x, ns, ot, rfl, ht, l4, hx, ok, k⟩ := h
    refine ⟨_, (pss_one (ps_if (pt_not (pt_val (pe_meth (pv 0) T.cl_Table T.me_Table_is_seat (ok_Table_is_seat T) hr T.b_Table_is_seat .nil pass0 (pa_cons (pv 1) pa_nil)))) pss_never pss_nil)), ?_⟩
    obtain ⟨dx, t, h1, h2⟩ := id ht
    refine ⟨_, rfl, a, dx, _, rfl, h1, rfl, _, rfl, a, x, ns, ot, rfl, ht, l4, hx, fun H2 e => ⟨_, rfl, itf (by rw [ok]; rfl) (k _ e)⟩⟩
def sp_require_call (K : PySem.W.Frag) (C : Addr) : Sp := fun vs H Q _ => ∃ (a : Addr) (x : V) (ns : List Int) (ot : Option (List (Option Int))), vs = [.ref a, x] ∧ TabAt C H a ns ∧ TupA K H x ot ∧ isCallO ns ot = true ∧ ∀ H2, Ex H H2 → Q .non H2
theorem ok_require_call (T : TX K mg) : FnOk P w K mg base CX0 3 T.f_require_call T.fd_require_call ["table", "call"] (sp_require_call K T.C_Table) := by
  refine T.F_require_call.ok sc_require_call (fun vs H Q E h => ?_) (fun cdv A outer s H vs Q E hr h => ?_)
  · obtain ⟨a, x, ns, ot, rfl, _⟩ := h
    rfl
  · obtain ⟨a, x, ns, ot, rfl, ht, hx, ok, k⟩ := h
    refine ⟨_, (pss_one (ps_if (pt_not (pt_val (pe_meth (pv 0) T.cl_Table T.me_Table_is_call (ok_Table_is_call T) hr T.b_Table_is_call .nil pass0 (pa_cons (pv 1) pa_nil)))) pss_never pss_nil)), ?_⟩
    obtain ⟨dx, t, h1, h2⟩ := id ht
    refine ⟨_, rfl, a, dx, _, rfl, h1, rfl, _, rfl, a, x, ns, ot, rfl, ht, hx, fun H2 e => ⟨_, rfl, itf (by rw [ok]; rfl) (k _ e)⟩⟩
def sp_Table_moves (C : Addr) : Sp := fun vs H Q _ => ∃ (a s c : Addr) (ns ps cs : List Int), vs = [.ref a, .ref s, .ref c] ∧ TabAt C H a ns ∧ SzOk ns ∧ H s = some (.tup (ps.map V.int)) ∧ H c = some (.tup (cs.map V.int)) ∧ SeatOk ns ps ∧ cs.length = ns.length ∧
  ∀ H2 q f b, Ex H H2 → H q = none → H f = none → H b = none → H2 q = some (.tup [.ref f, .ref b]) → H2 f = some (.tup ((shiftL ns ps cs 1).map V.int)) → H2 b = some (.tup ((shiftL ns ps cs (-1)).map V.int)) → Q (.ref q) H2
theorem ok_Table_moves (T : TX K mg) : FnOk P w K mg base CX0 5 T.f_Table_moves T.fd_Table_moves ["self", "seat", "call"] (sp_Table_moves T.C_Table) := by
  refine T.F_Table_moves.ok sc_Table_moves (fun vs H Q E h => ?_) (fun cdv A outer s H vs Q E hr h => ?_)
  · obtain ⟨a, s, c, ns, ps, cs, rfl, _⟩ := h
    rfl
  · obtain ⟨a, s, c, ns, ps, cs, rfl, ht, ok, hs, hc, sk, lc, k⟩ := h
    have l4 := ok.le
    have lp := sk.len
    refine ⟨_, (pss_cons (ps_expr (pe_call (ok_require_seat T) hr rfl T.m_require_seat T.F_require_seat.kp T.b_require_seat .nil pass0 (pa_cons (pv 0) (pa_cons (pv 1) pa_nil)))) (pss_cons (ps_expr (pe_call (ok_require_call T) (hr.mono (by decide)) rfl T.m_require_call T.F_require_call.kp T.b_require_call .nil pass0 (pa_cons (pv 0) (pa_cons (pv 2) pa_nil)))) (pss_one (ps_ret (pe_tup (pa_cons (pe_meth (pv 0) T.cl_Table T.me_Table_shifted (ok_Table_shifted T) (hr.mono (by decide)) T.b_Table_shifted .nil pass0 (pa_cons (pv 1) (pa_cons (pv 2) (pa_cons pe_int pa_nil)))) (pa_cons (pe_meth (pv 0) T.cl_Table T.me_Table_shifted (ok_Table_shifted T) (hr.mono (by decide)) T.b_Table_shifted .nil pass0 (pa_cons (pv 1) (pa_cons (pv 2) (pa_cons (pe_un un_neg pe_int) pa_nil)))) pa_nil))))))), ?_⟩
    refine ⟨_, rfl, _, rfl, a, _, ns, _, rfl, ht, l4, TupA.ints hs (by omega), isSeat_ok sk, fun H1 e1 => ?_⟩
    refine ⟨_, rfl, _, rfl, a, _, ns, _, rfl, ht.mono e1, TupA.ints (e1 _ _ hc) (by omega), isCall_ok lc, fun H2 e2 => ?_⟩
    have e12 : Ex H H2 := fun b o z => e2 b o (e1 b o z)
    obtain ⟨dx, t, g1, g2⟩ := ht.mono e12
    refine ⟨_, rfl, a, dx, _, rfl, g1, rfl, _, rfl, _, rfl, a, s, c, 1, ns, ps, cs, rfl, ⟨dx, t, g1, g2⟩, ok, e12 _ _ hs, e12 _ _ hc, lp, lc, .inl rfl, fun H3 f e3 nf hf => ?_⟩
    have e13 : Ex H H3 := fun b o z => e3 b o (e12 b o z)
    refine ⟨_, rfl, a, dx, _, rfl, e3 _ _ g1, rfl, _, rfl, _, rfl, _, rfl, a, s, c, -1, ns, ps, cs, rfl, ⟨dx, t, e3 _ _ g1, e3 _ _ g2⟩, ok, e13 _ _ hs, e13 _ _ hc, lp, lc, .inr rfl, fun H4 b e4 nb hb => ?_⟩
    have e14 : Ex H H4 := fun b o z => e4 b o (e13 b o z)
    refine ⟨by show 2 ≤ sizeLine; decide, fun q hq => ?_⟩
    have nfq : f ≠ q := ne_of_none (e4 _ _ hf) hq
    have nbq : b ≠ q := ne_of_none hb hq
    exact k _ q f b (fun c o z => exn hq c o (e14 c o z)) (Evl.fresh_back e14 hq) (Evl.fresh_back e12 nf) (Evl.fresh_back e13 nb) upd_same (by rw [upd_ne nfq]; exact e4 _ _ hf) (by rw [upd_ne nbq]; exact hb)
def sp_Table_step (C : Addr) : Sp := fun vs H Q _ => ∃ (a s c : Addr) (ns ps cs : List Int) (bk : Bool), vs = [.ref a, .ref s, .ref c, .str (if bk = true then "backward" else "forward")] ∧ TabAt C H a ns ∧ SzOk ns ∧ H s = some (.tup (ps.map V.int)) ∧ H c = some (.tup (cs.map V.int)) ∧ SeatOk ns ps ∧ cs.length = ns.length ∧
  ∀ H2 q, Ex H H2 → H q = none → H2 q = some (.tup ((shiftL ns ps cs (if bk = true then -1 else 1)).map V.int)) → Q (.ref q) H2
theorem ok_Table_step (T : TX K mg) : FnOk P w K mg base CX0 6 T.f_Table_step T.fd_Table_step ["self", "seat", "call", "direction"] (sp_Table_step T.C_Table) := by
  refine T.F_Table_step.ok sc_Table_step (fun vs H Q E h => ?_) (fun cdv A outer s H vs Q E hr h => ?_)
  · obtain ⟨a, s, c, ns, ps, cs, bk, rfl, _⟩ := h
    rfl
  · obtain ⟨a, s, c, ns, ps, cs, bk, rfl, ht, ok, hs, hc, sk, lc, k⟩ := h
    refine ⟨_, (pss_cons (ps_set (i := 4) sc_Table_step.nd rfl (Or.inl rfl) (pe_meth (pv 0) T.cl_Table T.me_Table_moves (ok_Table_moves T) hr T.b_Table_moves .nil pass0 (pa_cons (pv 1) (pa_cons (pv 2) pa_nil)))) (pss_cons (ps_if (pt_not (pt_val (pe_call (ok_is_direction T) (hr.mono (by decide)) rfl T.m_is_direction T.F_is_direction.kp T.b_is_direction .nil pass0 (pa_cons (pv 3) pa_nil)))) pss_never pss_nil) (pss_one (ps_ret (pe_ix ix_tup (pv 4) (pe_callTy call_int1 (by rfl) T.z_int (by decide +kernel) (pa_cons (pe_cmpR op_eq (pv 3) pe_str (nomark _)) pa_nil)) (fun _ _ => rfl)))))), ?_⟩
    obtain ⟨dx, t, g1, g2⟩ := id ht
    refine ⟨_, rfl, a, dx, _, rfl, g1, rfl, _, rfl, _, rfl, a, s, c, ns, ps, cs, rfl, ht, ok, hs, hc, sk, lc, fun H1 q f b e1 nq nf nb hq hf hb => ?_⟩
    refine ⟨_, rfl, _, some _, rfl, rfl, fun H2 e2 => ⟨_, rfl, itf ?_ ?_⟩⟩
    · cases bk <;> decide +kernel
    · cases bk with
      | false =>
        refine ⟨_, rfl, _, rfl, rfl, .inr ⟨_, rfl, q, _, _, _, rfl, rfl, SqT.of (e2 _ _ hq), ?_, k _ f (fun c o z => e2 c o (e1 c o z)) nf (e2 _ _ hf)⟩⟩
        have ei : (if decide (V.str (if false = true then "backward" else "forward") = V.str "backward") = true then 1 else 0 : Int) = 0 := by decide +kernel
        rw [ei]
        rfl
      | true =>
        refine ⟨_, rfl, _, rfl, rfl, .inr ⟨_, rfl, q, _, _, _, rfl, rfl, SqT.of (e2 _ _ hq), ?_, k _ b (fun c o z => e2 c o (e1 c o z)) nb (e2 _ _ hb)⟩⟩
        have ei : (if decide (V.str (if true = true then "backward" else "forward") = V.str "backward") = true then 1 else 0 : Int) = 1 := by decide +kernel
        rw [ei]
        rfl
end

/-- all but what is at s stays -/
def XB (s : Addr) (H H2 : Hp) : Prop := ∀ c o, c ≠ s → H c = some o → H2 c = some o
theorem XB.refl {s : Addr} {H : Hp} : XB s H H := fun _ _ _ h => h
theorem XB.trans {s : Addr} {H H1 H2 : Hp} (a : XB s H H1) (b : XB s H1 H2) : XB s H H2 := fun c o n h => b c o n (a c o n h)
theorem XB.upd {s : Addr} {H : Hp} {o : HO} : XB s H (upd H s o) := fun c u n h => by rw [upd_ne n]; exact h
theorem XB.of {s : Addr} {H H2 : Hp} (e : Ex H H2) : XB s H H2 := fun c o _ h => e c o h
theorem XB.back {s : Addr} {H H2 : Hp} (e : XB s H H2) {p : Addr} (hn : p ≠ s) (h : H2 p = none) : H p = none := by
  cases q : H p with
  | none => rfl
  | some o => rw [e p o hn q] at h; cases h
theorem mod_lo {i n : Int} (h : 0 < n) : 0 ≤ i % n := Int.emod_nonneg i (by omega)
theorem mod_hi {i n : Int} (h : 0 < n) : i % n < n := Int.emod_lt_of_pos i h

/-! ### data -/
mutual
theorem eqv_refl : ∀ d : PyData, d.canLay0 = true → PyData.eqv d d = true
  | .none, _ => by simp only [PyData.eqv]
  | .bool b, _ => by simp only [PyData.eqv, beq_self_eq_true]
  | .int i, _ => by simp only [PyData.eqv, beq_self_eq_true]
  | .str x, _ => by simp only [PyData.eqv, beq_self_eq_true]
  | .list xs, h => by
    simp only [PyData.canLay0] at h
    simp only [PyData.eqv]
    exact eqvAll_refl xs h
  | .tuple xs, h => by
    simp only [PyData.canLay0] at h
    simp only [PyData.eqv]
    exact eqvAll_refl xs h
  | .dict _, h => by simp [PyData.canLay0] at h
theorem eqvAll_refl : ∀ ds : List PyData, PyData.canLayAll0 ds = true → PyData.eqvAll ds ds = true
  | [], _ => by simp only [PyData.eqvAll]
  | d :: ds, h => by
    simp only [PyData.canLayAll0, Bool.and_eq_true] at h
    simp only [PyData.eqvAll, Bool.and_eq_true]
    exact ⟨eqv_refl d h.1, eqvAll_refl ds h.2⟩
end
/-- data of a depth below n, in a form that may be laid -/
def Sh (n : Nat) (d : PyData) : Prop := d.canLay0 = true ∧ d.depth ≤ n
theorem Sh.ok {d : PyData} (h : Sh 60 d) : SeqAt.shaped d = true := by
  unfold SeqAt.shaped
  rw [h.1, decide_eq_true (Nat.le_trans h.2 (by decide))]
  rfl
theorem sh_int {n : Nat} (i : Int) : Sh n (.int i) := ⟨by simp only [PyData.canLay0], by simp only [PyData.depth]; omega⟩
theorem sh_bool {n : Nat} (i : Bool) : Sh n (.bool i) := ⟨by simp only [PyData.canLay0], by simp only [PyData.depth]; omega⟩
theorem sh_none {n : Nat} : Sh n .none := ⟨by simp only [PyData.canLay0], by simp only [PyData.depth]; omega⟩
theorem sh_all {n : Nat} : ∀ {ds : List PyData}, (∀ d ∈ ds, Sh n d) → PyData.canLayAll0 ds = true ∧ PyData.depthAll ds ≤ n
  | [], _ => ⟨by simp only [PyData.canLayAll0], by simp only [PyData.depthAll]; omega⟩
  | d :: ds, h => by
    obtain ⟨h1, h2⟩ := h d List.mem_cons_self
    obtain ⟨g1, g2⟩ := sh_all fun x hx => h x (List.mem_cons_of_mem _ hx)
    refine ⟨by simp only [PyData.canLayAll0, h1, g1, Bool.and_self], ?_⟩
    simp only [PyData.depthAll]
    omega
theorem sh_tuple {n : Nat} {ds : List PyData} (h : ∀ d ∈ ds, Sh n d) : Sh (n + 1) (.tuple ds) := by
  obtain ⟨h1, h2⟩ := sh_all h
  exact ⟨by simp only [PyData.canLay0, h1], by simp only [PyData.depth]; omega⟩
theorem sh_list {n : Nat} {ds : List PyData} (h : ∀ d ∈ ds, Sh n d) : Sh (n + 1) (.list ds) := by
  obtain ⟨h1, h2⟩ := sh_all h
  exact ⟨by simp only [PyData.canLay0, h1], by simp only [PyData.depth]; omega⟩
theorem Sh.up {n m : Nat} {d : PyData} (h : Sh n d) (e : n ≤ m) : Sh m d := ⟨h.1, Nat.le_trans h.2 e⟩
/-- a tuple of ints -/
abbrev iT (ns : List Int) : PyData := .tuple (ns.map PyData.int)
theorem sh_ints {n : Nat} (ns : List Int) : Sh (n + 1) (iT ns) := sh_tuple fun d hd => by
  obtain ⟨i, _, rfl⟩ := List.mem_map.mp hd
  exact sh_int i
theorem dpall_ints {K : PySem.W.Frag} {H : Hp} : ∀ ns : List Int, DpAll K H (ns.map V.int) (ns.map PyData.int)
  | [] => .nil
  | n :: ns => .cons (.int n) (dpall_ints ns)
theorem dp_ints {K : PySem.W.Frag} {H : Hp} {a : Addr} {ns : List Int} (h : H a = some (.tup (ns.map V.int))) : Dp K H (.ref a) (iT ns) := .tup (SqT.of h) (dpall_ints ns)
theorem eqvAll_ints : ∀ ns ms : List Int, PyData.eqvAll (ns.map PyData.int) (ms.map PyData.int) = decide (ns = ms)
  | [], [] => by simp [PyData.eqvAll]
  | [], _ :: _ => by simp [PyData.eqvAll]
  | _ :: _, [] => by simp [PyData.eqvAll]
  | n :: ns, m :: ms => by
    have ih := eqvAll_ints ns ms
    simp only [List.map_cons, PyData.eqvAll, PyData.eqv, ih]
    by_cases h : n = m
    · subst h
      simp
    · have : (n == m) = false := by simpa using h
      rw [this]
      simp [h]
theorem eqv_ints (ns ms : List Int) : PyData.eqv (iT ns) (iT ms) = decide (ns = ms) := by
  simp only [PyData.eqv]
  exact eqvAll_ints ns ms
theorem sh_pair {n : Nat} {a b : PyData} (ha : Sh n a) (hb : Sh n b) : Sh (n + 1) (.tuple [a, b]) := sh_tuple fun d hd => by
  rcases List.mem_cons.mp hd with e | e
  · rw [e]; exact ha
  · rw [List.mem_singleton.mp e]; exact hb
theorem eqv_same {d : PyData} (h : Sh 60 d) : (!PyData.eqv d d) = false := by rw [eqv_refl d h.1]; rfl

/-! ### zip's rows, nested comprehensions, lists of tuples of ints -/
theorem yrow2 {xs ys : List V} {i : Nat} {H H2 : Hp} {x : V} (h : CZ.YRow [xs, ys] i H x H2) : ∃ (Ta : Addr) (a b : V), x = .ref Ta ∧ H Ta = none ∧ H2 = upd H Ta (.tup [a, b]) ∧ xs[i]? = some a ∧ ys[i]? = some b := by
  obtain ⟨Ta, vs, rfl, hT, rfl, r⟩ := h
  cases r with
  | cons r1 r =>
    cases r with
    | cons r2 r =>
      cases r
      exact ⟨Ta, _, _, rfl, hT, rfl, r1, r2⟩
theorem yrow3 {xs ys zs : List V} {i : Nat} {H H2 : Hp} {x : V} (h : CZ.YRow [xs, ys, zs] i H x H2) : ∃ (Ta : Addr) (a b c : V), x = .ref Ta ∧ H Ta = none ∧ H2 = upd H Ta (.tup [a, b, c]) ∧ xs[i]? = some a ∧ ys[i]? = some b ∧ zs[i]? = some c := by
  obtain ⟨Ta, vs, rfl, hT, rfl, r⟩ := h
  cases r with
  | cons r1 r =>
    cases r with
    | cons r2 r =>
      cases r with
      | cons r3 r =>
        cases r
        exact ⟨Ta, _, _, _, rfl, hT, rfl, r1, r2, r3⟩
theorem yints2 {xs ys : List Int} {i : Nat} {H H2 : Hp} {x : V} (h : CZ.YRow [xs.map V.int, ys.map V.int] i H x H2) : ∃ (Ta : Addr) (a b : Int), x = .ref Ta ∧ H Ta = none ∧ H2 = upd H Ta (.tup [.int a, .int b]) ∧ xs[i]? = some a ∧ ys[i]? = some b := by
  obtain ⟨Ta, a, b, rfl, hT, rfl, r1, r2⟩ := yrow2 h
  obtain ⟨p, hp, rfl⟩ := map_get r1
  obtain ⟨q, hq, rfl⟩ := map_get r2
  exact ⟨Ta, p, q, rfl, hT, rfl, hp, hq⟩
theorem yints3 {xs ys zs : List Int} {i : Nat} {H H2 : Hp} {x : V} (h : CZ.YRow [xs.map V.int, ys.map V.int, zs.map V.int] i H x H2) : ∃ (Ta : Addr) (a b c : Int), x = .ref Ta ∧ H Ta = none ∧ H2 = upd H Ta (.tup [.int a, .int b, .int c]) ∧ xs[i]? = some a ∧ ys[i]? = some b ∧ zs[i]? = some c := by
  obtain ⟨Ta, a, b, c, rfl, hT, rfl, r1, r2, r3⟩ := yrow3 h
  obtain ⟨p, hp, rfl⟩ := map_get r1
  obtain ⟨q, hq, rfl⟩ := map_get r2
  obtain ⟨r, hr, rfl⟩ := map_get r3
  exact ⟨Ta, p, q, r, rfl, hT, rfl, hp, hq, hr⟩
theorem all2 {K : PySem.W.Frag} {H : Hp} {p q : Bool × Addr} {xs ys : List V} (hp : CZ.SqK K H p xs) (hq : CZ.SqK K H q ys) : ∀ r ∈ [p, q], ∃ zs, CZ.SqK K H r zs := fun r hr => by
  rcases List.mem_cons.mp hr with e | hr
  · rw [e]; exact ⟨_, hp⟩
  · rw [List.mem_singleton.mp hr]; exact ⟨_, hq⟩
theorem all3 {K : PySem.W.Frag} {H : Hp} {p q t : Bool × Addr} {xs ys us : List V} (hp : CZ.SqK K H p xs) (hq : CZ.SqK K H q ys) (ht : CZ.SqK K H t us) : ∀ r ∈ [p, q, t], ∃ zs, CZ.SqK K H r zs := fun r hr => by
  rcases List.mem_cons.mp hr with e | hr
  · rw [e]; exact ⟨_, hp⟩
  · exact all2 hq ht r hr
theorem lens2 {xs ys : List V} {n : Nat} (h1 : xs.length = n) (h2 : ys.length = n) : ∀ zs ∈ [xs, ys], zs.length = n := fun zs hz => by
  rcases List.mem_cons.mp hz with e | hz
  · rw [e]; exact h1
  · rw [List.mem_singleton.mp hz]; exact h2
theorem lens3 {xs ys us : List V} {n : Nat} (h1 : xs.length = n) (h2 : ys.length = n) (h3 : us.length = n) : ∀ zs ∈ [xs, ys, us], zs.length = n := fun zs hz => by
  rcases List.mem_cons.mp hz with e | hz
  · rw [e]; exact h1
  · exact lens2 h2 h3 zs hz
theorem sqT {K : PySem.W.Frag} {H : Hp} {a : Addr} {xs : List V} (h : H a = some (.tup xs)) : CZ.SqK K H (true, a) xs := SqT.of h
theorem sqL {K : PySem.W.Frag} {H : Hp} {a : Addr} {xs : List V} (h : H a = some (.lst xs)) : CZ.SqK K H (false, a) xs := SqL.of h
section
variable {J : It} {n : Nat} {G : Hp → Prop} {Y : Nat → Hp → V → Hp → Prop}
/-- a comprehension of two loops: the outer -/
theorem lc2_it (w : Walk J n G Y) {g g1 : TG} {tt tt1 : TT} {te : TE} {wi1 : TI} {vs vs1 : List Nat} {σ : L2.St} {H1 : Hp} {D : Addr} {Qd : Hp → Prop} (Pv : Nat → Hp → Prop) (h0 : Pv 0 (upd H1 D (.lst []))) (hG : ∀ i H, i ≤ n → Pv i H → G H)
    (hs : ∀ i x H H2, i < n → Pv i H → Y i H x H2 → g x (wipe σ vs) H2 fun σ2 H2 => wipe σ2 vs = wipe σ vs ∧ tt σ2 H2 fun b H3 =>
      if b = true then wi1 σ2 H3 fun J1 H4 => ∃ W1 : Nat → Nat → Hp → Prop, (∃ m, W1 0 m H4) ∧ ∀ j k H, W1 j k H →
        (J1.stop j H ∧ Pv (i + 1) H) ∨ (J1.go j H ∧ ∃ Nx1 : Hp → Prop, (∀ H2, Nx1 H2 → ∃ k2, k2 < k ∧ W1 (j + 1) k2 H2) ∧ ∀ x H2, J1.yld j H x H2 → g1 x (wipe σ2 vs1) H2 fun σ3 H5 => wipe σ3 vs1 = wipe σ2 vs1 ∧ tt1 σ3 H5 fun b H6 =>
          if b = true then te σ3 H6 fun y H7 => ∃ acc, H7 D = some (.lst acc) ∧ acc.length < sizeLine ∧ Nx1 (upd H7 D (.lst (acc ++ [y]))) else Nx1 H6)
      else Pv (i + 1) H3) (hd : ∀ H, Pv n H → Qd H) :
    ∃ W : Nat → Nat → Hp → Prop, (∃ m, W 0 m (upd H1 D (.lst []))) ∧ ∀ i m H, W i m H →
      (J.stop i H ∧ Qd H) ∨ (J.go i H ∧ ∃ Nx : Hp → Prop, (∀ H2, Nx H2 → ∃ m2, m2 < m ∧ W (i + 1) m2 H2) ∧ ∀ x H2, J.yld i H x H2 → g x (wipe σ vs) H2 fun σ2 H2 => wipe σ2 vs = wipe σ vs ∧ tt σ2 H2 fun b H3 =>
        if b = true then wi1 σ2 H3 fun J1 H4 => ∃ W1 : Nat → Nat → Hp → Prop, (∃ m, W1 0 m H4) ∧ ∀ j k H, W1 j k H →
          (J1.stop j H ∧ Nx H) ∨ (J1.go j H ∧ ∃ Nx1 : Hp → Prop, (∀ H2, Nx1 H2 → ∃ k2, k2 < k ∧ W1 (j + 1) k2 H2) ∧ ∀ x H2, J1.yld j H x H2 → g1 x (wipe σ2 vs1) H2 fun σ3 H5 => wipe σ3 vs1 = wipe σ2 vs1 ∧ tt1 σ3 H5 fun b H6 =>
            if b = true then te σ3 H6 fun y H7 => ∃ acc, H7 D = some (.lst acc) ∧ acc.length < sizeLine ∧ Nx1 (upd H7 D (.lst (acc ++ [y]))) else Nx1 H6)
        else Nx H3) := by
  refine ⟨fun i m H => m = n - i ∧ i ≤ n ∧ Pv i H, ⟨n, by simp, Nat.zero_le _, h0⟩, ?_⟩
  rintro i m H ⟨rfl, hi, p⟩
  have q := hG i H hi p
  by_cases hlt : i < n
  · refine .inr ⟨w.goes i H hlt q, Pv (i + 1), fun H2 p2 => ⟨n - (i + 1), by omega, rfl, hlt, p2⟩, fun x H2 y => hs i x H H2 hlt p (w.yields i H x H2 hlt q y)⟩
  · have e : i = n := by omega
    subst e
    exact .inl ⟨w.stops H q, hd H p⟩
/-- .. the inner -/
theorem in_it (w : Walk J n G Y) {g1 : TG} {tt1 : TT} {te : TE} {vs1 : List Nat} {σ2 : L2.St} {H4 : Hp} {D : Addr} {Nx : Hp → Prop} (Pw : Nat → Hp → Prop) (h0 : Pw 0 H4) (hG : ∀ i H, i ≤ n → Pw i H → G H)
    (hs : ∀ j x H H2, j < n → Pw j H → Y j H x H2 → g1 x (wipe σ2 vs1) H2 fun σ3 H5 => wipe σ3 vs1 = wipe σ2 vs1 ∧ tt1 σ3 H5 fun b H6 =>
      if b = true then te σ3 H6 fun y H7 => ∃ acc, H7 D = some (.lst acc) ∧ acc.length < sizeLine ∧ Pw (j + 1) (upd H7 D (.lst (acc ++ [y]))) else Pw (j + 1) H6) (hd : ∀ H, Pw n H → Nx H) :
    ∃ W1 : Nat → Nat → Hp → Prop, (∃ m, W1 0 m H4) ∧ ∀ j k H, W1 j k H →
      (J.stop j H ∧ Nx H) ∨ (J.go j H ∧ ∃ Nx1 : Hp → Prop, (∀ H2, Nx1 H2 → ∃ k2, k2 < k ∧ W1 (j + 1) k2 H2) ∧ ∀ x H2, J.yld j H x H2 → g1 x (wipe σ2 vs1) H2 fun σ3 H5 => wipe σ3 vs1 = wipe σ2 vs1 ∧ tt1 σ3 H5 fun b H6 =>
        if b = true then te σ3 H6 fun y H7 => ∃ acc, H7 D = some (.lst acc) ∧ acc.length < sizeLine ∧ Nx1 (upd H7 D (.lst (acc ++ [y]))) else Nx1 H6) := by
  refine ⟨fun i m H => m = n - i ∧ i ≤ n ∧ Pw i H, ⟨n, by simp, Nat.zero_le _, h0⟩, ?_⟩
  rintro i m H ⟨rfl, hi, p⟩
  have q := hG i H hi p
  by_cases hlt : i < n
  · refine .inr ⟨w.goes i H hlt q, Pw (i + 1), fun H2 p2 => ⟨n - (i + 1), by omega, rfl, hlt, p2⟩, fun x H2 y => hs i x H H2 hlt p (w.yields i H x H2 hlt q y)⟩
  · have e : i = n := by omega
    subst e
    exact .inl ⟨w.stops H q, hd H p⟩
end
/-- refs of tuples of ints -/
def RowsR (H : Hp) (xs : List V) (hss : List (List Int)) : Prop := Paired (fun x hs => ∃ r, x = V.ref r ∧ H r = some (.tup (hs.map V.int))) xs hss
theorem RowsR.mono {H H2 : Hp} (e : Ex H H2) : ∀ {xs : List V} {hss : List (List Int)}, RowsR H xs hss → RowsR H2 xs hss
  | _, _, .nil => .nil
  | _, _, .cons ⟨r, h1, h2⟩ t => .cons ⟨r, h1, e _ _ h2⟩ (RowsR.mono e t)
theorem RowsR.snoc {H : Hp} {r : Addr} {hs : List Int} (h : H r = some (.tup (hs.map V.int))) : ∀ {xs : List V} {hss : List (List Int)}, RowsR H xs hss → RowsR H (xs ++ [.ref r]) (hss ++ [hs])
  | _, _, .nil => .cons ⟨r, rfl, h⟩ .nil
  | _, _, .cons q t => .cons q (RowsR.snoc h t)
theorem RowsR.app {H : Hp} {ys : List V} {kss : List (List Int)} (h : RowsR H ys kss) : ∀ {xs : List V} {hss : List (List Int)}, RowsR H xs hss → RowsR H (xs ++ ys) (hss ++ kss)
  | _, _, .nil => h
  | _, _, .cons q t => .cons q (RowsR.app h t)
theorem RowsR.len {H : Hp} : ∀ {xs : List V} {hss : List (List Int)}, RowsR H xs hss → xs.length = hss.length
  | _, _, .nil => rfl
  | _, _, .cons _ t => by rw [List.length_cons, List.length_cons, RowsR.len t]
theorem RowsR.get {H : Hp} : ∀ {xs : List V} {hss : List (List Int)} {i : Nat} {x : V}, RowsR H xs hss → xs[i]? = some x → ∃ hs r, hss[i]? = some hs ∧ x = V.ref r ∧ H r = some (.tup (hs.map V.int))
  | _, _, _, _, .nil, h => by simp at h
  | _, _, 0, _, .cons ⟨r, e, q⟩ _, h => by
    simp only [List.length_cons, Nat.zero_lt_succ, List.getElem?_eq_getElem, List.getElem_cons_zero, Option.some.injEq] at h
    subst h
    exact ⟨_, r, rfl, e, q⟩
  | _, _, i + 1, _, .cons _ t, h => by
    rw [List.getElem?_cons_succ] at h ⊢
    exact RowsR.get t h
theorem RowsR.dp {K : PySem.W.Frag} {H : Hp} : ∀ {xs : List V} {hss : List (List Int)}, RowsR H xs hss → DpAll K H xs (hss.map iT)
  | _, _, .nil => .nil
  | _, _, .cons ⟨r, e, q⟩ t => by
    subst e
    exact .cons (dp_ints q) (RowsR.dp t)
/-- a list of tuples of ints -/
def RowsAt (H : Hp) (D : Addr) (hss : List (List Int)) : Prop := ∃ xs, H D = some (.lst xs) ∧ RowsR H xs hss
theorem RowsAt.mono {H H2 : Hp} {D : Addr} {hss : List (List Int)} (e : Ex H H2) (h : RowsAt H D hss) : RowsAt H2 D hss := by
  obtain ⟨xs, h1, h2⟩ := h
  exact ⟨xs, e _ _ h1, h2.mono e⟩
theorem RowsAt.dp {K : PySem.W.Frag} {H : Hp} {D : Addr} {hss : List (List Int)} (h : RowsAt H D hss) : Dp K H (.ref D) (.list (hss.map iT)) := by
  obtain ⟨xs, h1, h2⟩ := h
  exact .lst (SqL.of h1) h2.dp
theorem sh_rows {n : Nat} (hss : List (List Int)) : Sh (n + 2) (.list (hss.map iT)) := sh_list fun d hd => by
  obtain ⟨hs, _, rfl⟩ := List.mem_map.mp hd
  exact sh_ints hs
theorem eqvAll_rows : ∀ ns ms : List (List Int), PyData.eqvAll (ns.map iT) (ms.map iT) = decide (ns = ms)
  | [], [] => by simp [PyData.eqvAll]
  | [], _ :: _ => by simp [PyData.eqvAll]
  | _ :: _, [] => by simp [PyData.eqvAll]
  | n :: ns, m :: ms => by
    have ih := eqvAll_rows ns ms
    simp only [List.map_cons, PyData.eqvAll, eqv_ints, ih]
    by_cases h : n = m
    · subst h
      simp
    · simp [h]
theorem eqv_rows (ns ms : List (List Int)) : PyData.eqv (.list (ns.map iT)) (.list (ms.map iT)) = decide (ns = ms) := by
  simp only [PyData.eqv]
  exact eqvAll_rows ns ms
theorem RowsR.upd {H : Hp} {D : Addr} {acc : List V} {o : HO} (hD : H D = some (.lst acc)) : ∀ {xs : List V} {hss : List (List Int)}, RowsR H xs hss → RowsR (upd H D o) xs hss
  | _, _, .nil => .nil
  | _, _, .cons ⟨r, h1, h2⟩ t => .cons ⟨r, h1, by rw [upd_ne (ne_of h2 hD (by intro z; cases z))]; exact h2⟩ (RowsR.upd hD t)
theorem rows_push {H : Hp} {D u : Addr} {hss : List (List Int)} {ks : List Int} (h : RowsAt H D hss) (hu : H u = some (.tup (ks.map V.int))) : ∃ acc, H D = some (.lst acc) ∧ acc.length = hss.length ∧ RowsAt (upd H D (.lst (acc ++ [.ref u]))) D (hss ++ [ks]) := by
  obtain ⟨xs, h1, h2⟩ := h
  refine ⟨xs, h1, h2.len, _, upd_same, ?_⟩
  exact RowsR.snoc (by rw [upd_ne (ne_of hu h1 (by intro z; cases z))]; exact hu) (h2.upd h1)
theorem ex_upd {H H2 : Hp} {D : Addr} {o : HO} (e : Ex H H2) (hD : H D = none) : Ex H (upd H2 D o) := fun c u z => by
  rw [upd_ne (ne_of_none z hD)]
  exact e c u z
theorem ext {H H1 H2 : Hp} (a : Ex H H1) (b : Ex H1 H2) : Ex H H2 := fun c o z => b c o (a c o z)

/-! ### tuple * int, from 1 on -/
theorem u65 {k : Nat} {A : Around} (r : Room k A) : A.units + 65 < cLine := by have := r.un; omega
theorem tuple_mul1 (l : Addr) (items : Array Value) (n : Nat) (dd : Option Addr) (sl : Array (Option Value)) (x : Int) (u : Tok) (c0 : (decide (x < -(2 ^ 63)) || decide (x ≥ 2 ^ 63)) = false) (c1 : (items.isEmpty || x == 1) = true) :
    Meets (Builtin.«tuple.__mul__» ⟨[.ref l, .int x u], []⟩) (fun _ R s => s.heap.get? l = some { cls := .type "tuple", dict := dd, data := .seq items n, slots := sl } ∧ R (.ok (.ret (Value.ref l))) s) :=
  .of_wp fun prog w A R s h => by
    obtain ⟨hp, g, d, tk, os⟩ := s
    obtain ⟨hl, h⟩ := h
    have f1 := AutoSeq1.idx_int
    wp_walk using wpAny_loadPart' hl
    repeat (first
      | (refine wpAny_ite_false (decide_eq_false (by rw [c0]; exact Bool.false_ne_true)) ?_; wp_walk using wpAny_loadPart' hl)
      | (refine wpAny_ite_true (decide_eq_true c1) ?_; wp_walk using wpAny_loadPart' hl))
    exact ⟨_, rfl, h⟩
def rRepA (K : PySem.W.Frag) : R2 := fun x y H Q => ∃ l k xs, x = .ref l ∧ y = .int k ∧ SqT K H l xs ∧ xs ≠ [] ∧ 1 ≤ k ∧ k ≤ 1000 ∧ xs.length ≤ 1000 ∧ (k = 1 → Q (.ref l) H) ∧ ∀ p, H p = none → Q (.ref p) (upd H p (.tup (List.replicate k.toNat xs).flatten))
theorem op_repA {X : Cx} : OpR X (binaryOp .Mult) (rRepA X.K) := by
  intro pins s σ H x y v u Q I rx ry h
  obtain ⟨l, k, xs, ex, ey, hT, hne, h1, h2, hz, q1, q⟩ := h
  by_cases hk : k = 1
  · subst ex ey hk
    cases rx
    obtain ⟨t, rfl⟩ := ry
    obtain ⟨its, r, ⟨⟨cls, dd, data, sl⟩, ho, hc, n, hd⟩, hs⟩ := I.tuple hT
    simp only at hc hd
    subst hc hd
    refine wpAny_binaryOp_repeat_ref (T := "tuple") (U := "int") (by decide) ⟨_, ho, rfl⟩ (fun s2 => typeIs_int s2 1 t) noFill_tuple_mul PySem.F.fills_int_mul PySem.F.slot_int_rmul repeat_tuple PySem.F.slot_int_index.lookup
      (call_meets PySem.F.slot_int_rmul (typeIs_int s 1 t) PySem.F.entry_int_rmul (PySem.F.args_int_rmul_2 _ _) (int_rmul_tuple 1 t l its.toArray n dd sl)
        ⟨ho, rfl, ⟨_, ho, rfl⟩, call_meets PySem.F.slot_tuple_mul ⟨_, ho, rfl⟩ PySem.F.entry_tuple_mul (PySem.F.args_tuple_mul_2 _ _) (tuple_mul1 l its.toArray n dd sl 1 t (by decide) (by simp)) ⟨ho, ?_⟩⟩)
    exact ⟨.ref l, H, I, rfl, q1 rfl⟩
  · exact op_repT pins s σ H x y v u Q I rx ry ⟨l, k, xs, ex, ey, hT, hne, by omega, h2, hz, q⟩
/-- (x,) * k -/
theorem rep_one (x : V) (k : Nat) : (List.replicate k [x]).flatten = List.replicate k x := by
  induction k with
  | zero => rfl
  | succ k ih => rw [List.replicate_succ, List.flatten_cons, ih, List.replicate_succ]; rfl
theorem rep_ints {K : PySem.W.Frag} {H : Hp} {Q : VK} {u : Addr} {x k : Int} (hu : H u = some (.tup [.int x])) (h1 : 1 ≤ k) (h2 : k ≤ 1000) (h : ∀ q H2, Ex H H2 → H2 q = some (.tup ((List.replicate k.toNat x).map V.int)) → Q (.ref q) H2) : rRepA K (.ref u) (.int k) H Q := by
  refine ⟨u, k, [.int x], rfl, rfl, SqT.of hu, (fun z => nomatch z), h1, h2, (by show 1 ≤ 1000; decide), fun e => ?_, fun p hp => ?_⟩
  · subst e
    exact h u H exr hu
  · refine h p _ (exn hp) ?_
    rw [upd_same, rep_one, List.map_replicate]
theorem ne_same {a b : List Int} (h : a = b) : (!PyData.eqv (iT a) (iT b)) = false := by rw [h]; exact eqv_same (sh_ints b)
/-- a comprehension over a tuple of ints, by a value each -/
theorem row_in {hss : List (List Int)} {ps : List Int} (h : ps ∈ hss) : ((hss.map iT).any fun z => PyData.eqv z (iT ps)) = true := by
  rw [List.any_eq_true]
  exact ⟨iT ps, List.mem_map.mpr ⟨ps, h, rfl⟩, by rw [eqv_ints]; simp⟩
/-- a list of ints -/
abbrev iL (ns : List Int) : PyData := .list (ns.map PyData.int)
theorem sh_ilist {n : Nat} (ns : List Int) : Sh (n + 1) (iL ns) := sh_list fun d hd => by
  obtain ⟨i, _, rfl⟩ := List.mem_map.mp hd
  exact sh_int i
theorem dp_ilist {K : PySem.W.Frag} {H : Hp} {a : Addr} {ns : List Int} (h : H a = some (.lst (ns.map V.int))) : Dp K H (.ref a) (iL ns) := .lst (SqL.of h) (dpall_ints ns)
theorem eqv_ilist (ns ms : List Int) : PyData.eqv (iL ns) (iL ms) = decide (ns = ms) := by
  simp only [PyData.eqv]
  exact eqvAll_ints ns ms
theorem dec_bl {a b : Bool} (h : a = b) : (!decide (V.bl a = V.bl b)) = false := by rw [h]; simp
theorem emod_eq_iff {a b n : Int} : a % n = b % n ↔ n ∣ a - b := by
  rw [Int.emod_eq_emod_iff_emod_sub_eq_zero, Int.dvd_iff_emod_eq_zero]
/-- behind an if that changes names alone -/
theorem ifs_cutS {c : TT} {t u : TS} {D : Ends} {σ : L2.St} {H : Hp} (R : L2.St → Prop) (hR : ∀ σ2, R σ2 → D.nx σ2 H) (h : ∀ N : L2.St → Hp → Prop, (∀ σ2, R σ2 → N σ2 H) → tIfS c t u { D with nx := N } σ H) : tIfS c t u D σ H :=
  h D.nx hR

/-- a comprehension that lengthens a row by each of ks -/
theorem lc_rows {J : It} {n : Nat} {G : Hp → Prop} {Y : Nat → Hp → V → Hp → Prop} (w : Walk J n G Y) {g : TG} {te : TE} {vs : List Nat} {σ : L2.St} {H1 : Hp} {D : Addr} {Qd : Hp → Prop} (row ks : List Int) (hn : ks.length = n) (hl : n ≤ 10000000) (hD : H1 D = none)
    (hG : ∀ H, Ex H1 H → G H)
    (hs : ∀ i x H H2 (R : VK), i < n → Ex H1 H → Y i H x H2 → (∀ k v H5, Ex H H5 → ks[i]? = some k → H5 v = some (.tup ((row ++ [k]).map V.int)) → R (.ref v) H5) → g x (wipe σ vs) H2 fun σ2 H3 => wipe σ2 vs = wipe σ vs ∧ te σ2 H3 R)
    (hg : ∀ x σ2 H2 (R R2 : L2.St → Hp → Prop), (∀ σ3 H3, R σ3 H3 → R2 σ3 H3) → g x σ2 H2 R → g x σ2 H2 R2)
    (hd : ∀ H, Ex H1 H → RowsAt H D (ks.map fun k => row ++ [k]) → Qd H) :
    ∃ W : Nat → Nat → Hp → Prop, (∃ m, W 0 m (upd H1 D (.lst []))) ∧ ∀ i m H, W i m H →
      (J.stop i H ∧ Qd H) ∨ (J.go i H ∧ ∃ Nx : Hp → Prop, (∀ H2, Nx H2 → ∃ m2, m2 < m ∧ W (i + 1) m2 H2) ∧ ∀ x H2, J.yld i H x H2 → g x (wipe σ vs) H2 fun σ2 H3 => wipe σ2 vs = wipe σ vs ∧ tYes σ2 H3 fun b H4 =>
        if b = true then te σ2 H4 fun y H5 => ∃ acc, H5 D = some (.lst acc) ∧ acc.length < sizeLine ∧ Nx (upd H5 D (.lst (acc ++ [y]))) else Nx H4) := by
  refine lc_it w (fun i H => Ex H1 H ∧ RowsAt H D ((ks.take i).map fun k => row ++ [k])) ⟨exn hD, _, upd_same, .nil⟩ (fun i H _ p => hG H p.1) (fun i x H H2 hi p y => ?_) (fun H p => hd H p.1 (by have := p.2; rwa [List.take_of_length_le (by rw [hn]; exact Nat.le_refl _)] at this))
  refine hg _ _ _ _ _ (fun σ3 H3 q => ⟨q.1, q.2⟩) (hs i x H H2 (fun y H5 => ∃ acc, H5 D = some (.lst acc) ∧ acc.length < sizeLine ∧ Ex H1 (upd H5 D (.lst (acc ++ [y]))) ∧ RowsAt (upd H5 D (.lst (acc ++ [y]))) D ((ks.take (i + 1)).map fun k => row ++ [k])) hi p.1 y fun k v H5 e hk hv => ?_)
  obtain ⟨acc, h1, h2, h3⟩ := rows_push (p.2.mono e) hv
  refine ⟨acc, h1, ?_, ex_upd (ext p.1 e) hD, ?_⟩
  · rw [h2, List.length_map, List.length_take]
    exact Nat.lt_of_le_of_lt (Nat.le_trans (Nat.min_le_right _ _) (by rw [hn]; exact hl)) (by decide)
  · rw [take_more hk, List.map_append]
    exact h3
/-- row + (k,) -/
theorem cat_row {K : PySem.W.Frag} {H : Hp} {Q : VK} {r u : Addr} {row : List Int} {k : Int} (hr : H r = some (.tup (row.map V.int))) (hu : H u = some (.tup [.int k])) (hl : row.length ≤ 1000) (h : ∀ v H5, Ex H H5 → H5 v = some (.tup ((row ++ [k]).map V.int)) → Q (.ref v) H5) : rCatA K (.ref r) (.ref u) H Q := by
  refine ⟨r, u, row.map V.int, [.int k], rfl, rfl, SqT.of hr, SqT.of hu, ?_, fun z => ?_, fun _ z => (nomatch z), fun _ _ v hv => ?_⟩
  · rw [List.length_map]
    exact Nat.le_trans (show _ + 1 ≤ 1001 by omega) (by decide)
  · have : row = [] := List.map_eq_nil_iff.mp z
    subst this
    exact h u H exr hu
  · refine h v _ (exn hv) ?_
    rw [upd_same, List.map_append]
    rfl
theorem rows_ext {H : Hp} {D E : Addr} {hss kss : List (List Int)} (h1 : RowsAt H D hss) (h2 : RowsAt H E kss) (ne : D ≠ E) : ∃ xs zs, H D = some (.lst xs) ∧ H E = some (.lst zs) ∧ xs.length = hss.length ∧ zs.length = kss.length ∧ RowsAt (upd H D (.lst (xs ++ zs))) D (hss ++ kss) := by
  obtain ⟨xs, a1, a2⟩ := h1
  obtain ⟨zs, b1, b2⟩ := h2
  exact ⟨xs, zs, a1, b1, a2.len, b2.len, _, upd_same, RowsR.app (b2.upd a1) (a2.upd a1)⟩

theorem eqT {i j : Int} (h : decide (V.int i = V.int j) = true) : i = j := V.int.inj (of_decide_eq_true h)
theorem eqF {i j : Int} (h : ¬decide (V.int i = V.int j) = true) : i ≠ j := fun z => h (decide_eq_true (by rw [z]))
/-- behind an if -/
theorem ifs_cutG {c : TT} {t u : TS} {D : Ends} {σ : L2.St} {H : Hp} (R : L2.St → Hp → Prop) (hR : ∀ σ2 H2, R σ2 H2 → D.nx σ2 H2) (h : ∀ N : L2.St → Hp → Prop, (∀ σ2 H2, R σ2 H2 → N σ2 H2) → tIfS c t u { D with nx := N } σ H) : tIfS c t u D σ H :=
  h D.nx hR
theorem exG {H H4 : Hp} {p : Addr} {o : HO} (h : upd H p o = H4) (n : H p = none) : Ex H H4 := h ▸ exn n
theorem atG {H H4 : Hp} {p : Addr} {o : HO} (h : upd H p o = H4) : H4 p = some o := h ▸ upd_same
theorem slen {n : Nat} (h : Nat.ble n 1000 = true) : n ≤ sizeLine := Nat.le_trans (Nat.le_of_ble_eq_true h) (by decide)
/-- a comprehension with a test: what passes, by f -/
theorem lc_filt {α : Type} {J : It} {n : Nat} {G : Hp → Prop} {Y : Nat → Hp → V → Hp → Prop} (w : Walk J n G Y) {g : TG} {tt : TT} {te : TE} {vs : List Nat} {σ : L2.St} {H1 : Hp} {D : Addr} {Qd : Hp → Prop} (xs : List α) (c : α → Bool) (f : α → V) (hn : xs.length = n) (hl : n ≤ 10000000) (hD : H1 D = none)
    (hG : ∀ H, Ex H1 H → G H)
    (hs : ∀ i x a H H2 (R : VK) (S : Hp → Prop), xs[i]? = some a → Ex H1 H → Y i H x H2 → (∀ y H5, Ex H H5 → c a = true → y = f a → R y H5) → (∀ H4, Ex H H4 → c a = false → S H4) → g x (wipe σ vs) H2 fun σ2 H3 => wipe σ2 vs = wipe σ vs ∧ tt σ2 H3 fun b H4 => if b = true then te σ2 H4 R else S H4)
    (hd : ∀ H, Ex H1 H → H D = some (.lst ((xs.filter c).map f)) → Qd H) :
    ∃ W : Nat → Nat → Hp → Prop, (∃ m, W 0 m (upd H1 D (.lst []))) ∧ ∀ i m H, W i m H →
      (J.stop i H ∧ Qd H) ∨ (J.go i H ∧ ∃ Nx : Hp → Prop, (∀ H2, Nx H2 → ∃ m2, m2 < m ∧ W (i + 1) m2 H2) ∧ ∀ x H2, J.yld i H x H2 → g x (wipe σ vs) H2 fun σ2 H3 => wipe σ2 vs = wipe σ vs ∧ tt σ2 H3 fun b H4 =>
        if b = true then te σ2 H4 fun y H5 => ∃ acc, H5 D = some (.lst acc) ∧ acc.length < sizeLine ∧ Nx (upd H5 D (.lst (acc ++ [y]))) else Nx H4) := by
  refine lc_out w (fun i => ((xs.take i).filter c).map f) (by simp) hD (fun i hi => ?_) hG (fun i x H H2 Nx hi e hDi y kA kN => ?_) (fun H e h => hd H e ?_)
  · rw [List.length_map]
    refine Nat.lt_of_le_of_lt (Nat.le_trans (List.length_filter_le _ _) (Nat.le_trans (by rw [List.length_take]; exact Nat.min_le_right _ _) (by rw [hn]; exact hl))) (by decide)
  · obtain ⟨a, ha⟩ : ∃ a, xs[i]? = some a := ⟨xs[i]'(by omega), List.getElem?_eq_getElem (by omega)⟩
    refine hs i x a H H2 _ _ ha e y (fun y2 H5 e5 hc hy => kA y2 H5 e5 ?_) (fun H4 e4 hc => kN H4 e4 ?_)
    · rw [take_more ha, List.filter_append, List.map_append, hy]
      simp [hc]
    · rw [take_more ha, List.filter_append, List.map_append]
      simp [hc]
  · rw [h, List.take_of_length_le (by rw [hn]; exact Nat.le_refl _)]
/-- rows that pass a test -/
theorem RowsR.filt {H : Hp} (c : List Int → Bool) : ∀ {xs : List V} {hss : List (List Int)}, RowsR H xs hss → RowsR H (((xs.zip hss).filter fun z => c z.2).map fun z => z.1) (hss.filter c)
  | _, _, .nil => .nil
  | _, _, .cons (a := x) (b := hs) q t => by
    have ih := RowsR.filt c t
    rw [List.zip_cons_cons]
    cases e : c hs with
    | false =>
      rw [List.filter_cons_of_neg (by simp [e]), List.filter_cons_of_neg (by simp [e])]
      exact ih
    | true =>
      rw [List.filter_cons_of_pos (by simp [e]), List.filter_cons_of_pos (by simp [e])]
      exact .cons q ih
theorem zip_at2 {α β : Type} {l : List α} {m : List β} {i : Nat} {z : α × β} (h : (l.zip m)[i]? = some z) : l[i]? = some z.1 ∧ m[i]? = some z.2 := by
  rw [List.getElem?_zip_eq_some] at h
  exact h
/-- tuple(s), s a list or a tuple -/
theorem tup_of {K : PySem.W.Frag} {H : Hp} {q : Bool × Addr} {xs : List V} {Q : VK} (h : SqH H q xs) (k : ∀ t H2, Ex H H2 → H2 t = some (.tup xs) → Q (.ref t) H2) : (SqL K H q.2 xs ∧ ∀ p, H p = none → Q (.ref p) (upd H p (.tup xs))) ∨ SqT K H q.2 xs ∧ Q (.ref q.2) H := by
  obtain ⟨b, a⟩ := q
  cases b
  · exact .inl ⟨SqL.of (show H a = some (.lst xs) from h), fun p hp => k p _ (exn hp) upd_same⟩
  · exact .inr ⟨SqT.of (show H a = some (.tup xs) from h), k a H exr h⟩
def rTupQ : List V → Hp → VK → Prop := fun vs H Q => ∃ (q : Bool × Addr) (xs : List V), vs = [.ref q.2] ∧ SqH H q xs ∧ ∀ t H2, Ex H H2 → H2 t = some (.tup xs) → Q (.ref t) H2
theorem call_tuple_q {X : Cx} : CallR X (.type "tuple") rTupQ := by
  intro pins s σ H vs us Q I r h
  obtain ⟨q, xs, rfl, hq, k⟩ := h
  exact call_tuple_of pins s σ H _ us Q I r ⟨q.2, xs, rfl, tup_of hq k⟩
theorem SqH.uniq {H : Hp} {q : Bool × Addr} {xs ys : List V} (h1 : SqH H q xs) (h2 : SqH H q ys) : xs = ys := by
  obtain ⟨b, a⟩ := q
  cases b
  · have e : some (HO.lst xs) = some (HO.lst ys) := (show H a = some (.lst xs) from h1).symm.trans (show H a = some (.lst ys) from h2)
    injection e with e
    injection e
  · have e : some (HO.tup xs) = some (HO.tup ys) := (show H a = some (.tup xs) from h1).symm.trans (show H a = some (.tup ys) from h2)
    injection e with e
    injection e
theorem RowsR.monoT {H H2 : Hp} (e : ∀ c xs, H c = some (.tup xs) → H2 c = some (.tup xs)) : ∀ {xs : List V} {hss : List (List Int)}, RowsR H xs hss → RowsR H2 xs hss
  | _, _, .nil => .nil
  | _, _, .cons ⟨r, h1, h2⟩ t => .cons ⟨r, h1, e _ _ h2⟩ (RowsR.monoT e t)

-- exceptions
/-- an error of the class at S is what «except S» names -/
theorem exm_self {K : PySem.W.Frag} {S : Addr} (h1 : PySem.W.subIn K (.ref S) (.type "BaseException") = some true) (h2 : PySem.W.isClsIn K S = true) (h3 : PySem.W.typeIn K (.ref S) = some (.type "type")) (h4 : PySem.W.subIn K (.ref S) (.ref S) = some true) :
    PySem.W.exmOne K (.ref S) (.ref S) = some true := by
  have e1 : (PySem.W.subIn K (.ref S) (.type "BaseException") == some true) = true := by rw [h1] <;> rfl
  have e2 : ((PySem.W.clsIn K S).isSome && PySem.W.typeIn K (.ref S) == some (.type "type")) = true := by
    have h2' : (PySem.W.clsIn K S).isSome = true := h2
    rw [h2', h3] <;> rfl
  show (if (PySem.W.subIn K (.ref S) (.type "BaseException") == some true) = true then (if ((PySem.W.clsIn K S).isSome && PySem.W.typeIn K (.ref S) == some (.type "type")) = true then PySem.W.subIn K (.ref S) (.ref S) else none) else none) = some true
  rw [if_pos e1, if_pos e2]
  exact h4
/-- what the first clause 'except x as n' wishes of an exception of the body that it takes: slot i is n's -/
def wAs1 (K : PySem.W.Frag) (c : Value) (i : Nat) (ts : Addr → Value → Option Addr → TS) (D : Ends) : WX := fun cls d σ H =>
  PySem.W.exmOne K cls c = some true ∧ ∀ a, H a = none → ts a cls d { nx := fun σ' H' => D.nx (σ'.set i none) H', rt := D.rt, bk := fun σ' H' => D.bk (σ'.set i none) H', ct := fun σ' H' => D.ct (σ'.set i none) H' } (σ.set i (some (.ref a))) H
/-- try, where the first clause takes what the body raises; what the other clauses are is all one -/
theorem ps_try_as1 {X : Cx} {x n : Str} {c : Value} {i : Nat} {body suite : List Stmt} {b₀ : Stmt} {np pos pos' : Pos} {hds : List ExceptHandler} {tb : WX → TS} {ts : Addr → Value → Option Addr → TS} (hs : X.stack = X.env :: X.outer) (hf : X.env.frame = some X.env.locals) (hN : X.N.Nodup) (hi : X.N[i]? = some n) (hln : X.env.kindOf n = some .local) (hc : Names X x c)
    (hb : ∀ (W : WX) (pn : List (Addr × Obj)) (xe : Value → Shared → Prop), Takes (X.tr pn xe) W → PassesOwn (model X.prog X.w) X.A X.env xe → PSs (X.tr pn xe) body (tb W))
    (hsu : ∀ (a : Addr) (oe : Obj) (cls : Value) (d : Option Addr) (pn : List (Addr × Obj)), Zc cls d oe → (∃ vs, oe.data = .fields vs) → PSs (X.suite a ((a, oe) :: pn)) (b₀ :: suite) (ts a cls d)) :
    PS X (.Try body (.ExceptHandler (some (.Name x np)) (some n) (b₀ :: suite) pos' :: hds) [] [] pos) (fun D σ H => tb (wAs1 X.K c i ts D) D σ H) := by
  refine ⟨fun pins s σ H D I h => ?_⟩
  have ok := I.ok
  have hfr : X.A.frames = some (X.env :: X.outer) := by rw [ok.frames, hs]
  have hloc : Loc X.env.scope n := .inl hln
  refine wpAny_Try_except ?_
  refine wpAny_mono ((hb (wAs1 X.K c i ts D) (X.pn ++ pins) (fun e s₁ => wpAny (model X.prog X.w) X.A (noteFrame e X.env) (fun _ s₂ => wpAny (model X.prog X.w) X.A (setFlight e none) (fun _ s₃ =>
    wpAny (model X.prog X.w) X.A (handleBy e X.env (.ExceptHandler (some (.Name x np)) (some n) (b₀ :: suite) pos' :: hds)) (SP X pins D) X.xe s₃) X.xe s₂) X.xe s₁) (fun u s' xx => ?_) PassesOwn.looking).run [] s σ H D (I.toTry _) h) (fun f s1 hsp => ?_) (fun e s1 he => he)
  · obtain ⟨a, B, sI, pins', σ', H', cls, d, rfl, J', nb, up, sky, na, os, ag, hb1, hyes⟩ := xx
    have J : Inv X pins σ' H' sI := J'.ofTry ok
    have sky' : Sky B (X.env :: X.outer) a (Zc cls d) X.env.locals s'.heap := by rw [← hs]; exact sky
    show wpAny (model X.prog X.w) X.A (noteFrame (.ref a) X.env) _ _ _
    refine Sky.land Zc.steady hfr hf sky' fun h3 fl3 up3 => ?_
    have J3 : Inv X pins σ' H' { s' with heap := h3 } := J.landed nb fl3.1 (up.trans up3) os ag
    obtain ⟨oe3, vs3, he3, hz3, hd3⟩ := fl3.there
    have notFr : ∀ {h : Heap} {o : Obj} {vs : Array Value}, h.FunFrames B (X.env :: X.outer) → h.get? a = some o → o.data = .fields vs → a ∉ frs (X.env :: X.outer) := fun {h o vs} ff e dd hm => by
      obtain ⟨_, o', e', hnf⟩ := ff.mem hm
      rw [e] at e'; cases e'
      exact hnf _ dd
    have nfr := notFr fl3.2.2.1 he3 hd3
    have nL : a ≠ X.env.locals := fun z => nfr (List.mem_filterMap.mpr ⟨X.env, List.mem_cons_self, by rw [hf, z]⟩)
    have nF : a ∉ X.fs := fun hm => by
      obtain ⟨e, he, q⟩ := List.mem_filterMap.mp hm
      exact nfr (List.mem_filterMap.mpr ⟨e, List.mem_cons_of_mem _ he, q⟩)
    have S3 := J3.suite he3 hd3 na nL nF
    refine wpAny_handleBy_cons (codeAny_handlers_test ?_) (by intro q; cases q)
    have LT : PySem.W.Looks (model X.prog X.w) h3 (typeOf (.ref a)) cls := fun A Q E s k q => wpAny_typeOf_ref (k _ _ he3) (by rw [hz3.1]; exact q)
    have LM := PySem.W.exm_one (M := model X.prog X.w) (J3.kIn) LT hb1
    have test : ∀ {Q : Value → Shared → Prop} {E : Value → Shared → Prop}, Q c { s' with heap := h3 } → wpAny (model X.prog X.w) (X.A.mark (some (.ref a))) (eval (.Name x np) X.env) Q E { s' with heap := h3 } := fun {Q E} q => by
      obtain ⟨hg, hdbg, hm | ⟨hm, hv, hnn⟩⟩ := hc
      · exact ld_glob (X := X.suite a ((a, oe3) :: (X.pn ++ pins))) S3 hg hm q hdbg
      · exact ld_blt (X := X.suite a ((a, oe3) :: (X.pn ++ pins))) S3 hg hm hv q hnn hdbg
    refine test (LM.here ?_)
    refine codeAny_handlers_suite_as ?_
    refine HandSPX.lands_againZ fl3 fun h4 fl4 up4 => ?_
    have J4 : Inv X pins σ' H' { s' with heap := h4 } := J.landed nb fl4.1 ((up.trans up3).trans up4) os ag
    obtain ⟨oe4, vs4, he4, hz4, hd4⟩ := fl4.there
    have S4 := J4.suite he4 hd4 na nL nF
    refine store_ok (X := X.suite a ((a, oe4) :: (X.pn ++ pins))) (v := .ref a) S4 hN hi hloc rfl (fun s5 S5 => ?_) (.inr hln)
    refine wpAny_mono ((hsu a oe4 cls d (X.pn ++ pins) hz4 ⟨_, hd4⟩).run [] s5 _ H' _ S5 (hyes a na)) (fun f s6 hsp => ?_) (fun _ _ z => False.elim z)
    have end_ : ∀ {σ6 : L2.St} {H6 : Hp} {Q : Shared → Prop}, Inv (X.suite a ((a, oe4) :: (X.pn ++ pins))) [] σ6 H6 s6 → (∀ s7, Inv X pins (σ6.set i none) H6 s7 → Q s7) →
        wpAny (model X.prog X.w) X.A (do bindName X.env n .none; unbindBehindTheSuite X.env n pos') (fun _ s7 => Q s7) X.xe s6 := fun {σ6 H6 Q} S6 hq => gone_ok (S6.unsuite ok) hN hi hln hq
    cases f with
    | next =>
      obtain ⟨σ6, H6, S6, q6⟩ := hsp
      exact end_ S6 fun s7 J7 => ⟨_, _, J7, q6⟩
    | brk =>
      obtain ⟨σ6, H6, S6, q6⟩ := hsp
      exact end_ S6 fun s7 J7 => ⟨_, _, J7, q6⟩
    | cont =>
      obtain ⟨σ6, H6, S6, q6⟩ := hsp
      exact end_ S6 fun s7 J7 => ⟨_, _, J7, q6⟩
    | ret u =>
      obtain ⟨v6, σ6, H6, S6, r6, q6⟩ := hsp
      exact end_ S6 fun s7 J7 => ⟨_, _, _, J7, r6, q6⟩
  · cases f with
    | next =>
      obtain ⟨σ', H', J', q⟩ := hsp
      exact wpAny_execs_nil ⟨σ', H', J'.ofTry ok, q⟩
    | brk =>
      obtain ⟨σ', H', J', q⟩ := hsp
      exact ⟨σ', H', J'.ofTry ok, q⟩
    | cont =>
      obtain ⟨σ', H', J', q⟩ := hsp
      exact ⟨σ', H', J'.ofTry ok, q⟩
    | ret u =>
      obtain ⟨v, σ', H', J', r, q⟩ := hsp
      exact ⟨v, σ', H', J'.ofTry ok, r, q⟩

-- exceptions of a class under the one that the clause names; a method that raises inside of try
/-- an error of a class S under B is what «except B» names -/
theorem exm_base {K : PySem.W.Frag} {S B : Addr} (h1 : PySem.W.subIn K (.ref B) (.type "BaseException") = some true) (h2 : PySem.W.isClsIn K B = true) (h3 : PySem.W.typeIn K (.ref B) = some (.type "type")) (h4 : PySem.W.subIn K (.ref S) (.ref B) = some true) :
    PySem.W.exmOne K (.ref S) (.ref B) = some true := by
  have e1 : (PySem.W.subIn K (.ref B) (.type "BaseException") == some true) = true := by rw [h1] <;> rfl
  have e2 : ((PySem.W.clsIn K B).isSome && PySem.W.typeIn K (.ref B) == some (.type "type")) = true := by
    have h2' : (PySem.W.clsIn K B).isSome = true := h2
    rw [h2', h3] <;> rfl
  show (if (PySem.W.subIn K (.ref B) (.type "BaseException") == some true) = true then (if ((PySem.W.clsIn K B).isSome && PySem.W.typeIn K (.ref B) == some (.type "type")) = true then PySem.W.subIn K (.ref S) (.ref B) else none) else none) = some true
  rw [if_pos e1, if_pos e2]
  exact h4
/-- o.m(e, ..), which may raise; what it lets out is told at the slots -/
def tMethP (C : Addr) (m : Str) (sp : Sp) (E : L2.St → XK) (ta : TE) (t : TA) : TE := fun σ H Q => ta σ H fun x H1 => ∃ a dx fs, x = .ref a ∧ H1 a = some (.ins C dx fs) ∧ fs.lookup m = none ∧ t σ H1 fun vs H2 => sp (.ref a :: vs) H2 Q (E σ)
theorem pe_methP {X : Cx} {CX : CXT} {k : Nat} {f C : Addr} {fd : FuncData} {ps : List Str} {sp : Sp} {E : L2.St → XK} {m : Str} {pos apos : Pos} {e o : Expr} {es : List Expr} {ta : TE} {t : TA} {pl : Sem Bool} (he : PE X o ta) (c : Cls X.K C) (hm : Meth X.K C m f) (F : FnOk X.prog X.w X.K X.mg X.base CX k f fd ps sp) (hr : Room k X.A) (hb : Binds X.K fd ps []) (hx : ∀ σ, PassesAt CX X σ (E σ)) (ha : PA X (e :: es) t)
    (hst : starEach (e :: es) X.env = (false, eval e X.env) :: starEach es X.env := by rfl) (hpl : (backTo pos (starEach es X.env)).any (·.1) = false := by rfl)
    (ht : eval (.Call (.Attribute o m apos) (e :: es) [] pos) X.env = (do
      let ov ← eval o X.env
      standAt apos.atName
      let (f, first) ← holding [ov] (getMethod ov m pl)
      callWith pos f first (backTo pos (starEach (e :: es) X.env)) (backToKw pos (keywordEach [] X.env))) := by rfl) :
    PE X (.Call (.Attribute o m apos) (e :: es) [] pos) (tMethP C m sp E ta t) := by
  refine ⟨fun pins s σ H Q I h => ?_⟩
  refine PySem.W.methodCall_KW (pl := pl) (thn (he.run pins s σ H _ I h) fun u s1 ⟨x, H1, I1, rx, a, dx, fs, ex, ea, l, q⟩ => ?_) ht
  subst ex
  obtain rfl : u = Value.ref a := rx
  refine getmeth_ok I1 ea c hm l ?_
  refine PySem.W.callWith_K (first := [.ref a]) (h₀ := X.base) I.ok.mod.kin hm.kp (thn (ha.run pos pins s1 σ H1 _ I1 q) fun us s2 ⟨vs, H2, I2, r, q2⟩ => ⟨I2.kIn, ?_⟩) hst hpl
  exact run_fnS (us := .ref a :: us) (vs := .ref a :: vs) F hr hb (hx σ) I2 (.cons rfl r) q2

-- try with several clauses, with names and without, one of which takes what the body raises
/-- an error that is no B is not what «except B» names -/
theorem exm_no {K : PySem.W.Frag} {S B : Addr} (h1 : PySem.W.subIn K (.ref B) (.type "BaseException") = some true) (h2 : PySem.W.isClsIn K B = true) (h3 : PySem.W.typeIn K (.ref B) = some (.type "type")) (h4 : PySem.W.subIn K (.ref S) (.ref B) = some false) :
    PySem.W.exmOne K (.ref S) (.ref B) = some false := by
  have e1 : (PySem.W.subIn K (.ref B) (.type "BaseException") == some true) = true := by rw [h1] <;> rfl
  have e2 : ((PySem.W.clsIn K B).isSome && PySem.W.typeIn K (.ref B) == some (.type "type")) = true := by
    have h2' : (PySem.W.clsIn K B).isSome = true := h2
    rw [h2', h3] <;> rfl
  show (if (PySem.W.subIn K (.ref B) (.type "BaseException") == some true) = true then (if ((PySem.W.clsIn K B).isSome && PySem.W.typeIn K (.ref B) == some (.type "type")) = true then PySem.W.subIn K (.ref S) (.ref B) else none) else none) = some false
  rw [if_pos e1, if_pos e2]
  exact h4
/-- the clauses: class, slot of the name (if any), what the suite does -/
inductive HdsMix (X : Cx) : List ExceptHandler → List (Value × Option Nat × (Addr → Value → Option Addr → TS)) → Prop
  | nil : HdsMix X [] []
  | bare {x : Str} {c : Value} {ts : Addr → Value → Option Addr → TS} {b₀ : Stmt} {suite : List Stmt} {np pos' : Pos} {hds : List ExceptHandler} {l : List (Value × Option Nat × (Addr → Value → Option Addr → TS))} (hc : Names X x c)
      (run : ∀ (a : Addr) (oe : Obj) (cls : Value) (d : Option Addr) (pn : List (Addr × Obj)), Zc cls d oe → (∃ vs, oe.data = .fields vs) → PSs (X.suite a ((a, oe) :: pn)) (b₀ :: suite) (ts a cls d)) (more : HdsMix X hds l) : HdsMix X (.ExceptHandler (some (.Name x np)) none (b₀ :: suite) pos' :: hds) ((c, none, ts) :: l)
  | named {x n : Str} {i : Nat} {c : Value} {ts : Addr → Value → Option Addr → TS} {b₀ : Stmt} {suite : List Stmt} {np pos' : Pos} {hds : List ExceptHandler} {l : List (Value × Option Nat × (Addr → Value → Option Addr → TS))} (hi : X.N[i]? = some n) (hln : X.env.kindOf n = some .local) (hc : Names X x c)
      (run : ∀ (a : Addr) (oe : Obj) (cls : Value) (d : Option Addr) (pn : List (Addr × Obj)), Zc cls d oe → (∃ vs, oe.data = .fields vs) → PSs (X.suite a ((a, oe) :: pn)) (b₀ :: suite) (ts a cls d)) (more : HdsMix X hds l) : HdsMix X (.ExceptHandler (some (.Name x np)) (some n) (b₀ :: suite) pos' :: hds) ((c, some i, ts) :: l)
/-- the ends of a suite whose name stands in slot i: the name goes -/
def endsAt (i : Nat) (D : Ends) : Ends := { nx := fun σ H => D.nx (σ.set i none) H, rt := D.rt, bk := fun σ H => D.bk (σ.set i none) H, ct := fun σ H => D.ct (σ.set i none) H }
/-- what the clauses wish of an exception -/
def wMix (K : PySem.W.Frag) (D : Ends) : List (Value × Option Nat × (Addr → Value → Option Addr → TS)) → WX
  | [] => fun _ _ _ _ => False
  | (c, oi, ts) :: l => fun cls d σ H => ∃ b : Bool, PySem.W.exmOne K cls c = some b ∧ (b = false → wMix K D l cls d σ H) ∧ (b = true → ∀ a, H a = none → match oi with
    | none => ts a cls d D σ H
    | some i => ts a cls d (endsAt i D) (σ.set i (some (.ref a))) H)
theorem ps_try_mix {X : Cx} {body : List Stmt} {h₀ : ExceptHandler} {hds : List ExceptHandler} {l : List (Value × Option Nat × (Addr → Value → Option Addr → TS))} {pos : Pos} {tb : WX → TS} (hs : X.stack = X.env :: X.outer) (hf : X.env.frame = some X.env.locals) (hN : X.N.Nodup)
    (hb : ∀ (W : WX) (pn : List (Addr × Obj)) (xe : Value → Shared → Prop), Takes (X.tr pn xe) W → PassesOwn (model X.prog X.w) X.A X.env xe → PSs (X.tr pn xe) body (tb W))
    (hh : HdsMix X (h₀ :: hds) l) : PS X (.Try body (h₀ :: hds) [] [] pos) (fun D σ H => tb (wMix X.K D l) D σ H) := by
  refine ⟨fun pins s σ H D I h => ?_⟩
  have ok := I.ok
  have hfr : X.A.frames = some (X.env :: X.outer) := ok.frames.trans (congrArg some hs)
  have caught := (hb (wMix X.K D l) (X.pn ++ pins) (fun e s₁ => wpAny (model X.prog X.w) X.A (noteFrame e X.env) (fun _ s₂ => wpAny (model X.prog X.w) X.A (setFlight e none) (fun _ s₃ =>
    wpAny (model X.prog X.w) X.A (handleBy e X.env (h₀ :: hds)) (SP X pins D) X.xe s₃) X.xe s₂) X.xe s₁) (fun u s' xx => ?_) PassesOwn.looking).run [] s σ H D (I.toTry _) h
  · refine wpAny_Try_except (wpAny_mono caught (fun f s1 got => ?_) fun e s1 he => he)
    match f, got with
    | .next, ⟨_, _, J, q⟩ => exact wpAny_execs_nil ⟨_, _, J.ofTry ok, q⟩
    | .brk, ⟨_, _, J, q⟩ => exact ⟨_, _, J.ofTry ok, q⟩
    | .cont, ⟨_, _, J, q⟩ => exact ⟨_, _, J.ofTry ok, q⟩
    | .ret _, ⟨_, _, _, J, r, q⟩ => exact ⟨_, _, _, J.ofTry ok, r, q⟩
  · obtain ⟨a, B, sI, pins', σ', H', cls, d, rfl, J', nb, up, sky, na, os, ag, want⟩ := xx
    have J : Inv X pins σ' H' sI := J'.ofTry ok
    rw [hs] at sky
    show wpAny (model X.prog X.w) X.A (noteFrame (.ref a) X.env) _ _ _
    refine Sky.land Zc.steady hfr hf sky fun h3 fl3 up3 => ?_
    have up13 := up.trans up3
    have J3 : Inv X pins σ' H' { s' with heap := h3 } := J.landed nb fl3.1 up13 os ag
    obtain ⟨oe3, vs3, he3, hz3, hd3⟩ := fl3.there
    have off : a ∉ frs (X.env :: X.outer) := fun hm => by
      obtain ⟨_, o', e', hnf⟩ := fl3.2.2.1.mem hm
      obtain rfl := Option.some.inj (he3.symm.trans e')
      exact hnf _ hd3
    have nL : a ≠ X.env.locals := fun z => off (List.mem_filterMap.mpr ⟨X.env, List.mem_cons_self, by rw [hf, z]⟩)
    have nF : a ∉ X.fs := fun hm => by
      obtain ⟨e, he, q⟩ := List.mem_filterMap.mp hm
      exact off (List.mem_filterMap.mpr ⟨e, List.mem_cons_of_mem _ he, q⟩)
    have S3 := J3.suite he3 hd3 na nL nF
    have isCls : PySem.W.Looks (model X.prog X.w) h3 (typeOf (.ref a)) cls := fun A Q E s k q => wpAny_typeOf_ref (k _ _ he3) (by rw [hz3.1]; exact q)
    have names : ∀ {x : Str} {c : Value} {np : Pos}, Names X x c → ∀ {Q : Value → Shared → Prop} {E : Value → Shared → Prop}, Q c { s' with heap := h3 } → wpAny (model X.prog X.w) (X.A.mark (some (.ref a))) (eval (.Name x np) X.env) Q E { s' with heap := h3 } := fun {x c np} hc {Q E} q => by
      obtain ⟨hg, hdbg, hm | ⟨hm, hv, hnn⟩⟩ := hc
      · exact ld_glob (X := X.suite a ((a, oe3) :: (X.pn ++ pins))) S3 hg hm q hdbg
      · exact ld_blt (X := X.suite a ((a, oe3) :: (X.pn ++ pins))) S3 hg hm hv q hnn hdbg
    have go : ∀ {hds' : List ExceptHandler} {l' : List (Value × Option Nat × (Addr → Value → Option Addr → TS))}, HdsMix X hds' l' → wMix X.K D l' cls d σ' H' → wpAny (model X.prog X.w) X.A (handleBy (.ref a) X.env hds') (SP X pins D) X.xe { s' with heap := h3 } := by
      intro hds' l' mix
      induction mix with
      | nil => exact fun z => z.elim
      | @bare x c ts b₀ suite np pos' hds2 l2 hc run more ih =>
        rintro ⟨b, hb1, no, yes⟩
        refine wpAny_handleBy_cons (codeAny_handlers_test (names hc ((PySem.W.exm_one (M := model X.prog X.w) (J3.kIn) isCls hb1).here ?_))) (by intro q; cases q)
        match b, no, yes with
        | false, no, _ => exact ih (no rfl)
        | true, _, yes =>
          refine codeAny_handlers_suite (HandSPX.lands_againZ fl3 fun h4 fl4 up4 => ?_)
          obtain ⟨oe4, vs4, he4, hz4, hd4⟩ := fl4.there
          have J4 : Inv X pins σ' H' { s' with heap := h4 } := J.landed nb fl4.1 (up13.trans up4) os ag
          have S4 := J4.suite he4 hd4 na nL nF
          refine wpAny_mono ((run a oe4 cls d (X.pn ++ pins) hz4 ⟨_, hd4⟩).run [] _ _ H' _ S4 (yes rfl a na)) (fun f s6 got => ?_) (fun _ _ z => z.elim)
          match f, got with
          | .next, ⟨_, _, S6, q⟩ => exact ⟨_, _, S6.unsuite ok, q⟩
          | .brk, ⟨_, _, S6, q⟩ => exact ⟨_, _, S6.unsuite ok, q⟩
          | .cont, ⟨_, _, S6, q⟩ => exact ⟨_, _, S6.unsuite ok, q⟩
          | .ret _, ⟨_, _, _, S6, r, q⟩ => exact ⟨_, _, _, S6.unsuite ok, r, q⟩
      | @named x n i c ts b₀ suite np pos' hds2 l2 hi hln hc run more ih =>
        rintro ⟨b, hb1, no, yes⟩
        refine wpAny_handleBy_cons (codeAny_handlers_test (names hc ((PySem.W.exm_one (M := model X.prog X.w) (J3.kIn) isCls hb1).here ?_))) (by intro q; cases q)
        match b, no, yes with
        | false, no, _ => exact ih (no rfl)
        | true, _, yes =>
          refine codeAny_handlers_suite_as (HandSPX.lands_againZ fl3 fun h4 fl4 up4 => ?_)
          obtain ⟨oe4, vs4, he4, hz4, hd4⟩ := fl4.there
          have J4 : Inv X pins σ' H' { s' with heap := h4 } := J.landed nb fl4.1 (up13.trans up4) os ag
          have S4 := J4.suite he4 hd4 na nL nF
          refine store_ok (X := X.suite a ((a, oe4) :: (X.pn ++ pins))) (v := .ref a) S4 hN hi (.inl hln) rfl (fun s5 S5 => ?_) (.inr hln)
          refine wpAny_mono ((run a oe4 cls d (X.pn ++ pins) hz4 ⟨_, hd4⟩).run [] s5 _ H' _ S5 (yes rfl a na)) (fun f s6 got => ?_) (fun _ _ z => z.elim)
          have leave : ∀ {σ6 : L2.St} {H6 : Hp} {Q : Shared → Prop}, Inv (X.suite a ((a, oe4) :: (X.pn ++ pins))) [] σ6 H6 s6 → (∀ s7, Inv X pins (σ6.set i none) H6 s7 → Q s7) →
              wpAny (model X.prog X.w) X.A (do bindName X.env n .none; unbindBehindTheSuite X.env n pos') (fun _ s7 => Q s7) X.xe s6 := fun {σ6 H6 Q} S6 hq => gone_ok (S6.unsuite ok) hN hi hln hq
          match f, got with
          | .next, ⟨_, _, S6, q⟩ => exact leave S6 fun s7 J7 => ⟨_, _, J7, q⟩
          | .brk, ⟨_, _, S6, q⟩ => exact leave S6 fun s7 J7 => ⟨_, _, J7, q⟩
          | .cont, ⟨_, _, S6, q⟩ => exact leave S6 fun s7 J7 => ⟨_, _, J7, q⟩
          | .ret _, ⟨_, _, _, S6, r, q⟩ => exact leave S6 fun s7 J7 => ⟨_, _, _, J7, r, q⟩
    exact go hh want

theorem shift_back {f : Int} : ∀ {ns ps cs : List Int}, SeatOk ns ps → cs.length = ns.length → shiftL ns (shiftL ns ps cs f) cs (-f) = ps
  | [], [], [], _, _ => rfl
  | n :: ns, p :: ps, c :: cs, h, l => by
    show ((p + f * c) % n + -f * c) % n :: _ = _
    rw [shift_back h.2 (Nat.succ.inj l), Int.emod_add_emod, Int.neg_mul, Int.add_neg_cancel_right, Int.emod_eq_of_lt h.1.1 h.1.2]
theorem shift_neg {f : Int} : ∀ {ns ps cs : List Int}, shiftL ns ps (cs.map fun c => 0 - c) f = shiftL ns ps cs (-f)
  | [], _, _ => by cases ‹List Int› <;> simp [shiftL]
  | _ :: _, [], _ => by simp [shiftL]
  | _ :: _, _ :: _, [] => by simp [shiftL]
  | n :: ns, p :: ps, c :: cs => by
    show (p + f * (0 - c)) % n :: _ = (p + -f * c) % n :: _
    rw [shift_neg, Int.zero_sub, Int.mul_neg, Int.neg_mul]
theorem shift_comm {f g : Int} : ∀ {ns ps cs ds : List Int}, ps.length = ns.length → cs.length = ns.length → ds.length = ns.length → shiftL ns (shiftL ns ps cs f) ds g = shiftL ns (shiftL ns ps ds g) cs f
  | [], [], [], [], _, _, _ => rfl
  | n :: ns, p :: ps, c :: cs, d :: ds, l1, l2, l3 => by
    show ((p + f * c) % n + g * d) % n :: _ = ((p + g * d) % n + f * c) % n :: _
    rw [shift_comm (Nat.succ.inj l1) (Nat.succ.inj l2) (Nat.succ.inj l3), Int.emod_add_emod, Int.emod_add_emod, Int.add_right_comm]
theorem shift_seat {f : Int} : ∀ {ns ps cs : List Int}, (∀ n ∈ ns, 1 ≤ n) → ps.length = ns.length → cs.length = ns.length → SeatOk ns (shiftL ns ps cs f)
  | [], [], [], _, _, _ => True.intro
  | n :: ns, p :: ps, c :: cs, h, l1, l2 => by
    have n1 := h n List.mem_cons_self
    exact ⟨⟨Int.emod_nonneg _ (by omega), Int.emod_lt_of_pos _ (by omega)⟩, shift_seat (fun m hm => h m (List.mem_cons_of_mem _ hm)) (Nat.succ.inj l1) (Nat.succ.inj l2)⟩
theorem shift_same {f g : Int} : ∀ {ns ps cs : List Int}, ps.length = ns.length → cs.length = ns.length → (shiftL ns ps cs f = shiftL ns ps cs g ↔ ∀ z ∈ cs.zip ns, z.2 ∣ (f - g) * z.1)
  | [], [], [], _, _ => by simp [shiftL]
  | n :: ns, p :: ps, c :: cs, l1, l2 => by
    have e : p + f * c - (p + g * c) = (f - g) * c := by rw [Int.sub_mul]; omega
    show (p + f * c) % n :: _ = (p + g * c) % n :: _ ↔ _
    rw [List.cons.injEq, shift_same (Nat.succ.inj l1) (Nat.succ.inj l2), emod_eq_iff, e, List.zip_cons_cons, List.forall_mem_cons]
theorem shift_zero : ∀ {ns ps cs : List Int}, SeatOk ns ps → cs.length = ns.length → shiftL ns ps cs 0 = ps
  | [], [], [], _, _ => rfl
  | n :: ns, p :: ps, c :: cs, h, l => by
    show (p + 0 * c) % n :: _ = _
    rw [shift_zero h.2 (Nat.succ.inj l), Int.zero_mul, Int.add_zero, Int.emod_eq_of_lt h.1.1 h.1.2]
/-- a call times k -/
theorem shift_times {k : Int} : ∀ {ns ps cs : List Int}, shiftL ns ps (cs.map fun c => c * k) 1 = shiftL ns ps cs k
  | [], _, _ => by cases ‹List Int› <;> simp [shiftL]
  | _ :: _, [], _ => by simp [shiftL]
  | _ :: _, _ :: _, [] => by simp [shiftL]
  | n :: ns, p :: ps, c :: cs => by
    show (p + 1 * (c * k)) % n :: _ = (p + k * c) % n :: _
    rw [shift_times, Int.one_mul, Int.mul_comm c]
theorem zero_seat : ∀ {ns : List Int}, (∀ n ∈ ns, 1 ≤ n) → SeatOk ns (List.replicate ns.length 0)
  | [], _ => True.intro
  | n :: ns, h => ⟨⟨Int.le_refl _, by have := h n List.mem_cons_self; omega⟩, zero_seat fun m hm => h m (List.mem_cons_of_mem _ hm)⟩

/-- Table(..) -/
theorem mk_tab {C a : Addr} {b : Bool} {H : Hp} {ns : List Int} {R : Addr → Hp → Prop} {E : XK} (hq : SqH H (b, a) (ns.map V.int)) (ok : SzOk ns) (k : ∀ x H2, Ex H H2 → H x = none → TabAt C H2 x ns → R x H2) :
    ∀ x dx, H x = none → H dx = none → dx ≠ x → sp_Table_init C [.ref x, .ref a] (upd (upd H dx (.own x)) x (.ins C dx [])) (fun v H2 => v = .non ∧ R x H2) E := by
  intro x dx nx ndx _
  have exB : Ex H (upd (upd H dx (.own x)) x (.ins C dx [])) := fun c o z => by
    rw [upd_ne (ne_of_none z nx), upd_ne (ne_of_none z ndx)]
    exact z
  refine ⟨x, dx, (b, a), ns, rfl, upd_same, hq.mono exB, ok, fun H3 k3 ht3 => ⟨rfl, ?_⟩⟩
  obtain ⟨t, g1, g2⟩ := ht3
  exact k x H3 (fun c o z => k3 c o (ne_of_none z nx) (exB c o z)) nx ⟨dx, t, g1, g2⟩
theorem eqN {i j : Int} (h : ¬(!decide (V.int i = V.int j)) = true) : i = j := by
  by_cases e : i = j
  · exact e
  · exact absurd (by simp [e]) h
/-! ### lists and tuples alike -/
theorem cut_from (xs : List V) (k : Nat) : cutV xs (some (k : Int)) none = xs.drop k := by
  unfold cutV
  rw [HT.sIx_nat, HT.sIx_none]
  by_cases h : k ≤ xs.length
  · rw [Nat.min_eq_left h]
    exact List.take_of_length_le (by rw [List.length_drop]; omega)
  · rw [Nat.min_eq_right (by omega), List.drop_of_length_le (Nat.le_refl _), List.drop_of_length_le (by omega)]
    simp
theorem cut_to (xs : List V) (k : Nat) : cutV xs none (some (k : Int)) = xs.take k := by
  unfold cutV
  rw [HT.sIx_nat, HT.sIx_none, List.drop_zero, Nat.sub_zero]
  by_cases h : k ≤ xs.length
  · rw [Nat.min_eq_left h]
  · rw [Nat.min_eq_right (by omega), List.take_of_length_le (Nat.le_refl _), List.take_of_length_le (by omega)]
theorem cut_whole {xs : List V} {lo hi : Option Int} (h : HT.sIx xs.length 0 lo = 0 ∧ HT.sIx xs.length xs.length hi = xs.length) : cutV xs lo hi = xs := by
  unfold cutV
  rw [h.1, h.2, List.drop_zero, Nat.sub_zero, List.take_of_length_le (Nat.le_refl _)]
def rIxQ (K : PySem.W.Frag) : R2 := fun x y H Q => ∃ (q : Bool × Addr) (xs : List V) (i : Int) (v : V), x = .ref q.2 ∧ y = .int i ∧ CZ.SqK K H q xs ∧ atI xs i = some v ∧ Q v H
theorem ix_q {X : Cx} : IxR X (rIxQ X.K) := by
  intro value slice pins s σ H x y v u Q I rx ry h hsub
  obtain ⟨⟨b, a⟩, xs, i, z, rfl, rfl, hq, hz, q⟩ := h
  cases b
  · exact ix_list value slice pins s σ H _ _ v u Q I rx ry ⟨a, xs, i, z, rfl, rfl, hq, hz, q⟩ hsub
  · exact ix_tup value slice pins s σ H _ _ v u Q I rx ry ⟨a, xs, i, z, rfl, rfl, hq, hz, q⟩ hsub
def rSlQ : V → Option Int → Option Int → Hp → VK → Prop := fun x lo hi H Q => ∃ (q : Bool × Addr) (xs : List V), x = .ref q.2 ∧ SqH H q xs ∧ ∀ p H2, Ex H H2 → SqH H2 (q.1, p) (cutV xs lo hi) → Q (.ref p) H2
theorem sl_q {X : Cx} : SlR X rSlQ := by
  intro pins s σ H x v vl vu lo hi sl Q I rx hs pl pu h
  obtain ⟨⟨b, a⟩, xs, rfl, hq, k⟩ := h
  cases b
  · exact sl_list pins s σ H _ v vl vu lo hi sl Q I rx hs pl pu ⟨a, xs, rfl, SqL.of (show H a = some (.lst xs) from hq), fun p hp => k p _ (exn hp) upd_same⟩
  · exact sl_tupA pins s σ H _ v vl vu lo hi sl Q I rx hs pl pu ⟨a, xs, rfl, SqT.of (show H a = some (.tup xs) from hq), fun hw => k a H exr (by rw [cut_whole hw]; exact hq), fun _ p hp => k p _ (exn hp) upd_same⟩

/-- the greatest common divisor -/
abbrev gcdI (a b : Int) : Int := ((Int.gcd a b : Nat) : Int)
theorem gcd_pos2 {p n : Int} (h : 1 ≤ n) : 0 < Int.gcd p n := Int.gcd_pos_of_ne_zero_right _ (by omega)
theorem gcd_turn {a b : Int} (hb : b ≠ 0) : Int.gcd b (a % b) = Int.gcd a b := by
  rw [Int.gcd_comm b, Int.emod_def, Int.sub_eq_add_neg, ← Int.mul_neg, Int.gcd_add_mul_left_left]
theorem abs45 {n : Int} (h1 : 0 ≤ n) (h2 : n ≤ 10 ^ 45) : n.natAbs < 2 ^ 150 := by
  have h5 : (10 : Int) ^ 45 < 2 ^ 150 := by decide
  have h8 : ((2 ^ 150 : Nat) : Int) = (2 : Int) ^ 150 := by simp
  omega
section
variable {P : Program} {w : World} {K : PySem.W.Frag} {mg : Str → Option Value} {base : Heap}
def sp_greatest_common_divisor : Sp := fun vs H Q _ => ∃ a b : Int, vs = [.int a, .int b] ∧ 0 ≤ a ∧ 0 ≤ b ∧ Q (.int (gcdI a b)) H
theorem ok_greatest_common_divisor (T : TX K mg) : FnOk P w K mg base CX0 1 T.f_greatest_common_divisor T.fd_greatest_common_divisor ["first", "second"] sp_greatest_common_divisor := by
  refine T.F_greatest_common_divisor.ok sc_greatest_common_divisor (fun vs H Q E h => ?_) (fun cdv A outer s H vs Q E hr h => ?_)
  · obtain ⟨a, b, rfl, _⟩ := h
    rfl
  · obtain ⟨a0, b0, rfl, h1, h2, k⟩ := h
    refine ⟨_, (pss_cons (ps_while PassesOwn.never (pt_cmpR op_ne (pv 1) pe_int (nomark _)) (pss_one (ps_par (i := 0) (j := 1) rfl sc_greatest_common_divisor.nd rfl rfl (by decide) rfl rfl (pa_cons (pv 1) (pa_cons (pe_op op_mod (pv 0) (pv 1)) pa_nil)) (by rfl)))) (pss_one (ps_ret (pe_callB call_abs (by rfl) T.z_abs (by decide +kernel) (pa_cons (pv 0) pa_nil))))), ?_⟩
    refine ⟨fun m σ H2 => ∃ a b : Int, σ = [some (.int a), some (.int b)] ∧ H2 = H ∧ 0 ≤ a ∧ 0 ≤ b ∧ Int.gcd a b = Int.gcd a0 b0 ∧ m = b.toNat, ⟨_, a0, b0, rfl, rfl, h1, h2, rfl, rfl⟩, ?_⟩
    rintro m σ _ ⟨a, b, rfl, rfl, ha, hb, hg, rfl⟩
    refine ⟨_, rfl, rfl, _, rfl, ?_⟩
    by_cases hz : b = 0
    · subst hz
      refine itf (by simp) ⟨_, rfl, a, rfl, ?_⟩
      rw [if_neg (by omega)]
      have e : (Int.gcd a 0 : Nat) = a.natAbs := by simp
      have e2 : gcdI a0 b0 = a := by
        show ((Int.gcd a0 b0 : Nat) : Int) = a
        rw [← hg, e]
        omega
      rw [e2] at k
      exact k
    · refine itt (by rw [dec_int]; simp [hz]) ⟨_, fun _ _ h => h, ?_⟩
      have q1 := Int.emod_lt_of_pos a (show 0 < b by omega)
      have q2 := Int.emod_nonneg a hz
      exact ⟨_, rfl, _, rfl, _, rfl, _, _, rfl, rfl, (by show 0 < b; omega), _, _, rfl, _, (by show (a % b).toNat < b.toNat; omega), _, _, rfl, rfl, hb, q2, by rw [gcd_turn hz, hg], rfl⟩
end

/-! ### the order of a seat -/
def perN (p n : Int) : Nat := n.natAbs / Int.gcd p n
def ordF (zs : List (Int × Int)) : Nat := zs.foldl (fun l z => Nat.lcm l (perN z.1 z.2)) 1
theorem per_int {p n : Int} (h : 1 ≤ n) : n / gcdI p n = (perN p n : Int) := by
  have e : (n.natAbs : Int) = n := Int.natAbs_of_nonneg (by omega)
  unfold perN
  rw [Int.natCast_ediv, e]
theorem per_pos {p n : Int} (h : 1 ≤ n) : 0 < perN p n := by
  unfold perN
  refine Nat.div_pos ?_ (gcd_pos2 h)
  have := Int.gcd_dvd_right p n
  have h2 : (Int.gcd p n : Int) ≤ n := Int.le_of_dvd (by omega) this
  omega
theorem per_le {p n : Int} : perN p n ≤ n.natAbs := Nat.div_le_self _ _
theorem lcm_int {l m : Nat} : (l : Int) / gcdI l m * m = ((Nat.lcm l m : Nat) : Int) := by
  show (l : Int) / ((Nat.gcd l m : Nat) : Int) * m = _
  rw [← Int.natCast_ediv, ← Int.natCast_mul, Nat.lcm, Nat.div_mul_right_comm (Nat.gcd_dvd_left l m)]
theorem ord_snoc (zs : List (Int × Int)) (z : Int × Int) : ordF (zs ++ [z]) = Nat.lcm (ordF zs) (perN z.1 z.2) := by
  unfold ordF
  rw [List.foldl_append]
  rfl
theorem lcm_fold : ∀ {zs : List (Int × Int)} {a B : Nat}, 0 < a → (∀ z ∈ zs, 1 ≤ z.2 ∧ z.2.natAbs ≤ B) → 0 < zs.foldl (fun l z => Nat.lcm l (perN z.1 z.2)) a ∧ zs.foldl (fun l z => Nat.lcm l (perN z.1 z.2)) a ≤ a * B ^ zs.length
  | [], a, B, h, _ => by simp; exact h
  | z :: zs, a, B, h, hz => by
    have h1 := hz z List.mem_cons_self
    have h2 : 0 < Nat.lcm a (perN z.1 z.2) := Nat.lcm_pos h (per_pos h1.1)
    obtain ⟨g1, g2⟩ := lcm_fold (zs := zs) (B := B) h2 fun y hy => hz y (List.mem_cons_of_mem _ hy)
    refine ⟨g1, Nat.le_trans g2 ?_⟩
    have h3 : Nat.lcm a (perN z.1 z.2) ≤ a * B := Nat.le_trans (Nat.div_le_self _ _) (Nat.mul_le_mul_left _ (Nat.le_trans per_le h1.2))
    calc _ ≤ a * B * B ^ zs.length := Nat.mul_le_mul_right _ h3
      _ = a * B ^ (zs.length + 1) := by rw [Nat.pow_succ, Nat.mul_assoc, Nat.mul_comm B]
theorem ord_ok {zs : List (Int × Int)} (h : ∀ z ∈ zs, 1 ≤ z.2 ∧ z.2 ≤ 10 ^ 45) (hl : zs.length ≤ 4) : 0 < ordF zs ∧ ordF zs < 2 ^ 600 := by
  obtain ⟨g1, g2⟩ := lcm_fold (zs := zs) (a := 1) (B := 10 ^ 45) (by decide) fun z hz => ⟨(h z hz).1, by
    have := h z hz
    have e : ((10 ^ 45 : Nat) : Int) = (10 : Int) ^ 45 := by simp
    omega⟩
  refine ⟨g1, Nat.lt_of_le_of_lt g2 ?_⟩
  rw [Nat.one_mul]
  exact Nat.lt_of_le_of_lt (Nat.pow_le_pow_right (by decide) hl) (by decide +kernel)
theorem zip_at {α β : Type} {l : List α} {m : List β} {i : Nat} {x : α} {y : β} (h1 : l[i]? = some x) (h2 : m[i]? = some y) : (l.zip m)[i]? = some (x, y) := by
  rw [List.getElem?_zip_eq_some]
  exact ⟨h1, h2⟩
theorem zip_len {α β : Type} {l : List α} {m : List β} {n : Nat} (h1 : l.length = n) (h2 : m.length = n) : (l.zip m).length = n := by
  rw [List.length_zip, h1, h2, Nat.min_self]
theorem zip_take_len {α β : Type} {l : List α} {m : List β} {n : Nat} (h1 : l.length = n) (h2 : m.length = n) : (l.zip m).take n = l.zip m := List.take_of_length_le (by rw [zip_len h1 h2]; exact Nat.le_refl _)
/-- sizes that are not too long -/
abbrev SzB (ns : List Int) : Prop := ∀ n ∈ ns, n ≤ 10 ^ 45
theorem SeatOk.at : ∀ {ns ps : List Int} {i : Nat} {n p : Int}, SeatOk ns ps → ns[i]? = some n → ps[i]? = some p → 0 ≤ p ∧ p < n
  | [], [], _, _, _, _, h, _ => by simp at h
  | n :: ns, p :: ps, 0, _, _, h, h1, h2 => by
    simp at h1 h2
    subst h1 h2
    exact h.1
  | n :: ns, p :: ps, i + 1, _, _, h, h1, h2 => by
    rw [List.getElem?_cons_succ] at h1 h2
    exact SeatOk.at h.2 h1 h2
theorem zip_bound {ns ps : List Int} (ok : SzOk ns) (hB : SzB ns) (i : Nat) : ∀ z ∈ (ps.zip ns).take i, 1 ≤ z.2 ∧ z.2 ≤ 10 ^ 45 := fun z hz => by
  have := (List.of_mem_zip (show (z.1, z.2) ∈ ps.zip ns from List.mem_of_mem_take hz)).2
  exact ⟨ok.one _ this, hB _ this⟩
theorem abs_succ {n : Int} (h : n.natAbs < 2 ^ 150) : (n + 1).natAbs < 2 ^ 151 := by
  have : (2 : Nat) ^ 151 = 2 * 2 ^ 150 := by decide +kernel
  omega
/-- the halves of a place -/
def halfL (p n : Int) : List Int := if n % 2 = 1 then [p * (n + 1) / 2 % n] else if p % 2 = 0 then [p / 2, (p + n) / 2] else []
theorem halfL_def (p n : Int) : halfL p n = if n % 2 = 1 then [p * (n + 1) / 2 % n] else if p % 2 = 0 then [p / 2, (p + n) / 2] else [] := rfl
/-- .. of a seat -/
def crossL (hss : List (List Int)) (ks : List Int) : List (List Int) := hss.flatMap fun hs => ks.map fun k => hs ++ [k]
def halvesF (zs : List (Int × Int)) : List (List Int) := zs.foldl (fun hss z => crossL hss (halfL z.1 z.2)) [[]]
theorem halves_snoc (zs : List (Int × Int)) (z : Int × Int) : halvesF (zs ++ [z]) = crossL (halvesF zs) (halfL z.1 z.2) := by
  unfold halvesF
  rw [List.foldl_append]
  rfl
theorem cross_snoc (hss : List (List Int)) (hs ks : List Int) : crossL (hss ++ [hs]) ks = crossL hss ks ++ ks.map fun k => hs ++ [k] := by
  unfold crossL
  rw [List.flatMap_append]
  simp
theorem cross_len (ks : List Int) : ∀ hss : List (List Int), (crossL hss ks).length = hss.length * ks.length
  | [] => by simp [crossL]
  | h :: hss => by
    have ih := cross_len ks hss
    unfold crossL at ih ⊢
    rw [List.flatMap_cons, List.length_append, ih, List.length_map, List.length_cons, Nat.succ_mul, Nat.add_comm]
theorem half_len (p n : Int) : (halfL p n).length ≤ 2 := by
  unfold halfL
  split
  · simp
  · split <;> simp
theorem halves_len : ∀ (zs : List (Int × Int)) (hss : List (List Int)), (zs.foldl (fun hss z => crossL hss (halfL z.1 z.2)) hss).length ≤ hss.length * 2 ^ zs.length
  | [], hss => by simp
  | z :: zs, hss => by
    refine Nat.le_trans (halves_len zs _) ?_
    rw [cross_len, List.length_cons, Nat.pow_succ, Nat.mul_comm (2 ^ zs.length), ← Nat.mul_assoc]
    exact Nat.mul_le_mul_right _ (Nat.mul_le_mul_left _ (half_len _ _))
theorem halves_few {zs : List (Int × Int)} (h : zs.length ≤ 4) : (halvesF zs).length ≤ 16 := by
  have := halves_len zs [[]]
  refine Nat.le_trans this ?_
  rw [List.length_singleton, Nat.one_mul]
  exact Nat.pow_le_pow_right (by decide) h
theorem halves_rows : ∀ (zs : List (Int × Int)) (hss : List (List Int)) (m : Nat), (∀ hs ∈ hss, hs.length = m) → ∀ hs ∈ zs.foldl (fun hss z => crossL hss (halfL z.1 z.2)) hss, hs.length = m + zs.length
  | [], hss, m, h => h
  | z :: zs, hss, m, h => fun hs hh => by
    have := halves_rows zs (crossL hss (halfL z.1 z.2)) (m + 1) (fun ks hk => ?_) hs hh
    · rw [this, List.length_cons]
      omega
    · obtain ⟨us, hu, hk⟩ := List.mem_flatMap.mp hk
      obtain ⟨k, _, rfl⟩ := List.mem_map.mp hk
      rw [List.length_append, h us hu]
      rfl
section
variable {P : Program} {w : World} {K : PySem.W.Frag} {mg : Str → Option Value} {base : Heap}
def sp_Table_order (C : Addr) : Sp := fun vs H Q _ => ∃ (a s : Addr) (ns ps : List Int), vs = [.ref a, .ref s] ∧ TabAt C H a ns ∧ SzOk ns ∧ SzB ns ∧ H s = some (.tup (ps.map V.int)) ∧ SeatOk ns ps ∧ ∀ H2, Ex H H2 → Q (.int (ordF (ps.zip ns))) H2
theorem ok_Table_order (T : TX K mg) : FnOk P w K mg base CX0 5 T.f_Table_order T.fd_Table_order ["self", "seat"] (sp_Table_order T.C_Table) := by
  refine T.F_Table_order.ok sc_Table_order (fun vs H Q E h => ?_) (fun cdv A outer s H vs Q E hr h => ?_)
  · obtain ⟨a, s, ns, ps, rfl, _⟩ := h
    rfl
  · obtain ⟨a, s, ns, ps, rfl, tab, ok, hB, hs, sk, k⟩ := h
    have l4 := ok.le
    have lp := sk.len
    refine ⟨_, (pss_cons (ps_expr (pe_call (ok_require_seat T) hr rfl T.m_require_seat T.F_require_seat.kp T.b_require_seat .nil pass0 (pa_cons (pv 0) (pa_cons (pv 1) pa_nil)))) (pss_cons (ps_set (i := 2) sc_Table_order.nd rfl (Or.inl rfl) pe_int) (pss_cons (ps_for PassesOwn.never rfl (CZ.pi_z2s (fl := [true, true]) rfl (by rfl) T.z_zip (pa_cons (pv 1) (pa_cons (pe_fld (pv 0) rfl) pa_nil))) (pg_tup rfl (pgs_cons (pg_name (i := 3) sc_Table_order.nd rfl (Or.inl rfl)) (pgs_cons (pg_name (i := 4) sc_Table_order.nd rfl (Or.inl rfl)) pgs_nil))) (pss_cons (ps_set (i := 5) sc_Table_order.nd rfl (Or.inl rfl) (pe_op op_fdivW (pv 4) (pe_call (ok_greatest_common_divisor T) (hr.mono (by decide)) rfl T.m_greatest_common_divisor T.F_greatest_common_divisor.kp T.b_greatest_common_divisor .nil pass0 (pa_cons (pv 3) (pa_cons (pv 4) pa_nil))))) (pss_one (ps_set (i := 2) sc_Table_order.nd rfl (Or.inl rfl) (pe_op op_mulI (pe_op op_fdivW (pv 2) (pe_call (ok_greatest_common_divisor T) (hr.mono (by decide)) rfl T.m_greatest_common_divisor T.F_greatest_common_divisor.kp T.b_greatest_common_divisor .nil pass0 (pa_cons (pv 2) (pa_cons (pv 5) pa_nil)))) (pv 5)))))) (pss_one (ps_ret (pv 2)))))), ?_⟩
    refine ⟨_, rfl, _, rfl, a, _, ns, _, rfl, tab, l4, TupA.ints hs (by omega), isSeat_ok sk, fun H1 e1 => ?_⟩
    obtain ⟨dx, t, h1, h2⟩ := tab.mono e1
    have hs1 := e1 _ _ hs
    refine ⟨_, rfl, _, rfl, a, _, dx, _, _, rfl, h1, T.cl_Table, T.n_Table_rings, rfl, [s, t], rfl, rfl, all2 (sqT hs1) (sqT h2), ?_⟩
    refine for_it (CZ.walk_rows (xss := [ps.map V.int, ns.map V.int]) (n := ns.length) (lens2 (by rw [List.length_map, lp]) (by rw [List.length_map]))) (fun i σ H2 => ∃ y1 y2 y3 : Option V, σ = [some (.ref a), some (.ref s), some (.int (ordF ((ps.zip ns).take i))), y1, y2, y3] ∧ Ex H1 H2) ⟨_, _, _, rfl, exr⟩ (fun i σ H2 _ ⟨_, _, _, _, e⟩ => .cons (sqT (e _ _ hs1)) (.cons (sqT (e _ _ h2)) .nil)) ?_ ?_
    · rintro i x σ H2 H3 hi ⟨y1, y2, y3, rfl, e2⟩ yy
      obtain ⟨Ta, p, n, rfl, hT, rfl, hp, hn⟩ := yints2 yy
      have n1 := ok.one n (List.mem_of_getElem? hn)
      have n2 := hB n (List.mem_of_getElem? hn)
      obtain ⟨p0, p1⟩ := sk.at hn hp
      have lt : ((ps.zip ns).take i).length ≤ 4 := by
        rw [List.length_take, zip_len lp rfl]
        omega
      obtain ⟨o1, o2⟩ := ord_ok (zip_bound ok hB i) lt
      have ezs := take_more (zip_at hp hn)
      refine ⟨Ta, _, rfl, SqT.of upd_same, rfl, _, _, rfl, _, _, rfl, rfl, ?_⟩
      have g0 : (0 : Int) < gcdI p n := by
        have := gcd_pos2 (p := p) n1
        show (0 : Int) < ((Int.gcd p n : Nat) : Int)
        omega
      have gle : gcdI p n ≤ n := Int.le_of_dvd (by omega) (Int.gcd_dvd_right p n)
      refine ⟨_, rfl, _, rfl, _, rfl, p, n, rfl, p0, (by omega), _, _, rfl, rfl, wide_div g0 (abs45 (by omega) (by omega)) (by decide) (by decide), ?_⟩
      have q0 := per_pos (p := p) n1
      have q1 := per_le (p := p) (n := n)
      have q2 : perN p n < 2 ^ 150 := Nat.lt_of_le_of_lt q1 (abs45 (by omega) n2)
      dsimp only
      rw [per_int n1]
      have r0 : 0 < Nat.gcd (ordF ((ps.zip ns).take i)) (perN p n) := Nat.gcd_pos_of_pos_left _ o1
      have r1 : Nat.gcd (ordF ((ps.zip ns).take i)) (perN p n) ≤ perN p n := Nat.gcd_le_right _ q0
      refine ⟨_, rfl, _, rfl, _, rfl, _, _, rfl, Int.natCast_nonneg _, Int.natCast_nonneg _, _, _, rfl, rfl, wide_div (b := 150) ?_ ?_ (by decide) (by decide), _, rfl, _, _, rfl, rfl, (wide_mul (a := 600) (b := 150) ?_ ?_ (by decide) (by decide) (by decide)).ok, ?_⟩
      · show (0 : Int) < ((Nat.gcd (ordF ((ps.zip ns).take i)) (perN p n) : Nat) : Int)
        omega
      · show ((Nat.gcd (ordF ((ps.zip ns).take i)) (perN p n) : Nat) : Int).natAbs < 2 ^ 150
        rw [Int.natAbs_natCast]
        exact Nat.lt_of_le_of_lt r1 q2
      · show ((ordF ((ps.zip ns).take i) : Int) / ((Nat.gcd (ordF ((ps.zip ns).take i)) (perN p n) : Nat) : Int)).natAbs < 2 ^ 600
        rw [← Int.natCast_ediv, Int.natAbs_natCast]
        exact Nat.lt_of_le_of_lt (Nat.div_le_self _ _) o2
      · rw [Int.natAbs_natCast]
        exact q2
      · dsimp only
        rw [lcm_int]
        rw [ezs, ord_snoc]
        exact ⟨_, _, _, rfl, fun c o z => exn hT _ _ (e2 c o z)⟩
    · rintro σ H2 ⟨y1, y2, y3, rfl, e2⟩
      rw [zip_take_len lp rfl]
      exact ⟨_, rfl, k _ fun c o z => e2 c o (e1 c o z)⟩
end

/-- a source of draws stands at s -/
def Src (H : Hp) (s : Addr) : Prop := ∃ a b c : Int, H s = some (.lst [.int a, .int b, .int c])
theorem Src.mono {s : Addr} {H H2 : Hp} (e : Ex H H2) (h : Src H s) : Src H2 s := by
  obtain ⟨a, b, c, h⟩ := h
  exact ⟨a, b, c, e _ _ h⟩
theorem Src.ne {s p : Addr} {H : Hp} (h : Src H s) (hp : H p = none) : p ≠ s := by
  obtain ⟨a, b, c, h⟩ := h
  exact (ne_of_none h hp).symm
theorem Src.new {s p : Addr} {H : Hp} {o : HO} (h : Src H s) (hp : H p = none) : Src (upd H p o) s := Src.mono (exn hp) h
section
variable {P : Program} {w : World} {K : PySem.W.Frag} {mg : Str → Option Value} {base : Heap}
def sp_law_mixed : Sp := fun vs H Q _ => ∃ c d : Int, vs = [.int c, .int d] ∧ ∀ r : Int, 0 ≤ r → r < 2147483563 → Q (.int r) H
theorem ok_law_mixed (T : TX K mg) : FnOk P w K mg base CX0 1 T.f_law_mixed T.fd_law_mixed ["_law_cell", "_law_k"] sp_law_mixed := by
  refine T.F_law_mixed.ok sc_law_mixed (fun vs H Q E h => ?_) (fun cdv A outer s H vs Q E hr h => ?_)
  · obtain ⟨c, d, rfl, _⟩ := h
    rfl
  · obtain ⟨c, d, rfl, k⟩ := h
    refine ⟨_, (pss_cons (ps_set (i := 2) sc_law_mixed.nd rfl (Or.inl rfl) (pe_op op_mod (pe_op op_mulI (pe_op op_add (pe_op op_mod (pv 0) pe_int) pe_int) (pe_op op_add (pe_op op_mulI (pv 1) pe_int) pe_int)) pe_int)) (pss_cons (ps_set (i := 2) sc_law_mixed.nd rfl (Or.inl rfl) (pe_op op_mod (pe_op op_mulI (pe_op op_add (pv 2) (pe_op op_mulI (pe_op op_mod (pe_op op_fdivW (pv 0) pe_int) pe_int) (pe_op op_add (pv 1) pe_int))) pe_int) pe_int)) (pss_cons (ps_set (i := 2) sc_law_mixed.nd rfl (Or.inl rfl) (pe_op op_mod (pe_op op_mulI (pv 2) (pe_op op_add (pe_op op_add (pe_op op_fdivW (pv 2) pe_int) pe_int) (pv 1))) pe_int)) (pss_one (ps_ret (pe_op op_mod (pe_op op_mulI (pv 2) (pe_op op_add (pe_op op_fdivW (pv 2) pe_int) pe_int)) pe_int)))))), ?_⟩
    have a1 := mod_lo (i := c) (n := 2147483646) (by decide)
    have a2 := mod_hi (i := c) (n := 2147483646) (by decide)
    refine ⟨_, rfl, _, _, rfl, rfl, (by show (0 : Int) < _; decide), _, _, rfl, rfl, _, rfl, _, _, rfl, rfl, mul_ok (.inr (by decide)), _, _, rfl, rfl, _, _, rfl, rfl, mul_ok (.inl (by omega)), _, _, rfl, rfl, (by show (0 : Int) < _; decide), ?_⟩
    generalize (c % 2147483646 + 1) * (d * 7919 + 104729) % 2147483647 = n1
    have b1 := mod_lo (i := c / 2147483646) (n := 1000003) (by decide)
    have b2 := mod_hi (i := c / 2147483646) (n := 1000003) (by decide)
    refine ⟨_, rfl, _, rfl, _, _, rfl, rfl, ⟨by decide, by decide +kernel⟩, _, _, rfl, rfl, (by show (0 : Int) < _; decide), _, rfl, _, _, rfl, rfl, _, _, rfl, rfl, mul_ok (.inl (by omega)), _, _, rfl, rfl, _, _, rfl, rfl, mul_ok (.inr (by decide)), _, _, rfl, rfl, (by show (0 : Int) < _; decide), ?_⟩
    have c1 := mod_lo (i := (n1 + c / 2147483646 % 1000003 * (d + 31)) * 48271) (n := 2147483629) (by decide)
    have c2 := mod_hi (i := (n1 + c / 2147483646 % 1000003 * (d + 31)) * 48271) (n := 2147483629) (by decide)
    generalize (n1 + c / 2147483646 % 1000003 * (d + 31)) * 48271 % 2147483629 = n2 at c1 c2
    refine ⟨_, rfl, _, rfl, _, _, rfl, rfl, ⟨by decide, by decide +kernel⟩, _, _, rfl, rfl, _, rfl, _, _, rfl, rfl, _, _, rfl, rfl, mul_ok (.inl (by omega)), _, _, rfl, rfl, (by show (0 : Int) < _; decide), ?_⟩
    have d1 := mod_lo (i := n2 * (n2 / 1013 + 69621 + d)) (n := 2147483587) (by decide)
    have d2 := mod_hi (i := n2 * (n2 / 1013 + 69621 + d)) (n := 2147483587) (by decide)
    generalize n2 * (n2 / 1013 + 69621 + d) % 2147483587 = n3 at d1 d2
    exact ⟨_, rfl, _, rfl, _, _, rfl, rfl, ⟨by decide, by decide +kernel⟩, _, _, rfl, rfl, _, _, rfl, rfl, mul_ok (.inl (by omega)), _, _, rfl, rfl, (by show (0 : Int) < _; decide), k _ (mod_lo (by decide)) (mod_hi (by decide))⟩
def sp_law_source : Sp := fun vs H Q _ => ∃ c : Int, vs = [.int c] ∧ ∀ H2 s, Ex H H2 → H s = none → Src H2 s → Q (.ref s) H2
theorem ok_law_source (T : TX K mg) : FnOk P w K mg base CX0 1 T.f_law_source T.fd_law_source ["_law_cell"] sp_law_source := by
  refine T.F_law_source.ok sc_law_source (fun vs H Q E h => ?_) (fun cdv A outer s H vs Q E hr h => ?_)
  · obtain ⟨c, rfl, _⟩ := h
    rfl
  · obtain ⟨c, rfl, k⟩ := h
    exact ⟨_, (pss_one (ps_ret (pe_lst (pa_cons (pv 0) (pa_cons (pv 0) (pa_cons pe_int pa_nil)))))), ⟨_, rfl, _, rfl, (by show 3 ≤ sizeLine; decide), fun s hs => k _ s (exn hs) hs ⟨c, c, 0, upd_same⟩⟩⟩
def sp_law_take : Sp := fun vs H Q _ => ∃ (s : Addr) (n : Int), vs = [.ref s, .int n] ∧ Src H s ∧ 0 < n ∧ n.natAbs < 2 ^ 8000 ∧ ∀ r H2, 0 ≤ r → r < n → XB s H H2 → Src H2 s → Q (.int r) H2
theorem ok_law_take (T : TX K mg) : FnOk P w K mg base CX0 2 T.f_law_take T.fd_law_take ["_law_source_here", "_law_many"] sp_law_take := by
  refine T.F_law_take.ok sc_law_take (fun vs H Q E h => ?_) (fun cdv A outer s H vs Q E hr h => ?_)
  · obtain ⟨s, n, rfl, _⟩ := h
    rfl
  · obtain ⟨s, n, rfl, ⟨a, b, c, hs⟩, h0, hb, k⟩ := h
    refine ⟨_, (pss_cons (ps_if (pt_cmpR op_ge (pe_ix ix_list (pv 0) pe_int (fun _ _ => rfl)) (pe_op op_pow pe_int pe_int) (nomark _)) (pss_cons (ps_set (i := 2) sc_law_take.nd rfl (Or.inl rfl) (pe_op op_mod (pe_ix ix_list (pv 0) pe_int (fun _ _ => rfl)) (pv 1))) (pss_cons (ps_asg (pe_op op_fdivW (pe_ix ix_list (pv 0) pe_int (fun _ _ => rfl)) (pv 1)) (pg_sub (pv 0) pe_int set_list)) (pss_one (ps_ret (pv 2))))) pss_nil) (pss_cons (ps_asg (pe_op op_add (pe_ix ix_list (pv 0) pe_int (fun _ _ => rfl)) pe_int) (pg_sub (pv 0) pe_int set_list)) (pss_one (ps_ret (pe_op op_mod (pe_call (ok_law_mixed T) hr rfl T.m_law_mixed T.F_law_mixed.kp T.b_law_mixed .nil pass0 (pa_cons (pe_ix ix_list (pv 0) pe_int (fun _ _ => rfl)) (pa_cons (pe_ix ix_list (pv 0) pe_int (fun _ _ => rfl)) pa_nil))) (pv 1)))))), ?_⟩
    refine ⟨_, rfl, s, _, _, _, rfl, rfl, SqL.of hs, rfl, _, _, rfl, rfl, ⟨by decide, by decide, by decide⟩, _, _, rfl, rfl, _, rfl, ?_⟩
    refine ite2 (fun _ => ?_) (fun _ => ?_)
    · refine ⟨_, rfl, s, _, _, _, rfl, rfl, SqL.of hs, rfl, _, rfl, _, _, rfl, rfl, h0, ?_⟩
      refine ⟨_, rfl, s, _, _, _, rfl, rfl, SqL.of hs, rfl, _, rfl, _, _, rfl, rfl, wide_div h0 hb (by decide) (by decide), _, rfl, s, _, _, 0, rfl, rfl, hs, rfl, ?_⟩
      exact ⟨_, rfl, k _ _ (mod_lo h0) (mod_hi h0) XB.upd ⟨_, _, _, upd_same⟩⟩
    · refine ⟨_, rfl, s, _, _, _, rfl, rfl, SqL.of hs, rfl, _, _, rfl, rfl, _, rfl, s, _, _, 2, rfl, rfl, hs, rfl, ?_⟩
      refine ⟨_, rfl, s, _, _, _, rfl, rfl, SqL.of upd_same, rfl, _, rfl, s, _, _, _, rfl, rfl, SqL.of upd_same, rfl, _, _, rfl, fun r _ _ => ?_⟩
      exact ⟨_, rfl, _, _, rfl, rfl, h0, k _ _ (mod_lo h0) (mod_hi h0) XB.upd ⟨_, _, _, upd_same⟩⟩
end

theorem XB.src {s : Addr} {H H2 H3 : Hp} (xb : XB s H H2) (e : Ex H2 H3) : XB s H H3 := xb.trans (XB.of e)
/-- an appended list D, new behind H, beside the source s -/
theorem XB.app {s D : Addr} {H H2 : Hp} {o : HO} (xb : XB s H H2) (hD : H D = none) : XB s H (L2.upd H2 D o) := fun c u n z => by
  rw [upd_ne (ne_of_none z hD)]
  exact xb c u n z
theorem Src.app {s D : Addr} {H : Hp} {o : HO} (h : Src H s) (n : D ≠ s) : Src (upd H D o) s := by
  obtain ⟨a, b, c, z⟩ := h
  exact ⟨a, b, c, by rw [upd_ne n.symm]; exact z⟩
theorem atI_nat {α : Type} {xs : List α} {r : Int} (r0 : 0 ≤ r) (r1 : r < xs.length) : ∃ v, atI xs r = some v ∧ v ∈ xs := by
  have h : r.toNat < xs.length := by omega
  refine ⟨xs[r.toNat], ?_, List.getElem_mem h⟩
  unfold atI ixN
  rw [if_pos r0, if_pos r1]
  show xs[r.toNat]? = _
  rw [List.getElem?_eq_getElem h]
theorem prodL_snoc (ns : List Int) (n : Int) : ns.foldl (fun p n => p * n) 1 * n = (ns ++ [n]).foldl (fun p n => p * n) 1 := by
  rw [List.foldl_append]
  rfl
theorem SeatOk.snoc : ∀ {ns ps : List Int} {n p : Int}, SeatOk ns ps → 0 ≤ p → p < n → SeatOk (ns ++ [n]) (ps ++ [p])
  | [], [], _, _, _, h0, h1 => ⟨⟨h0, h1⟩, True.intro⟩
  | _ :: _, _ :: _, _, _, h, h0, h1 => ⟨h.1, SeatOk.snoc h.2 h0 h1⟩
theorem abs30 {n : Int} (h1 : 1 ≤ n) (h2 : n ≤ 10 ^ 30) : n.natAbs < 2 ^ 100 := by
  have : (10 : Int) ^ 30 < 2 ^ 100 := by decide +kernel
  omega
theorem tup_xb {s q : Addr} {H H2 : Hp} {xs : List V} (src : Src H s) (h : H q = some (.tup xs)) (xb : XB s H H2) : H2 q = some (.tup xs) := by
  obtain ⟨a, b, c, z⟩ := src
  exact xb _ _ (ne_of h z (by intro q; cases q)) h
theorem TabAt.xb {C s a : Addr} {H H2 : Hp} {ns : List Int} (src : Src H s) (xb : XB s H H2) (h : TabAt C H a ns) : TabAt C H2 a ns := by
  obtain ⟨dx, t, h1, h2⟩ := h
  obtain ⟨x, y, c, z⟩ := src
  exact ⟨dx, t, xb _ _ (ne_of h1 z (by intro q; cases q)) h1, xb _ _ (ne_of h2 z (by intro q; cases q)) h2⟩
theorem RowsR.xb {s : Addr} {H H2 : Hp} {xs : List V} {tss : List (List Int)} (h : RowsR H xs tss) (src : Src H s) (xb : XB s H H2) : RowsR H2 xs tss := h.monoT fun _ _ z => tup_xb src z xb
theorem RowsAt.xb {s f : Addr} {H H2 : Hp} {tss : List (List Int)} (h : RowsAt H f tss) (n : f ≠ s) (src : Src H s) (xb : XB s H H2) : RowsAt H2 f tss := by
  obtain ⟨xs, h1, h2⟩ := h
  exact ⟨xs, xb _ _ n h1, h2.xb src xb⟩

/-- a list (false) or a tuple (true) of tuples of ints -/
def RowsQ (H : Hp) (q : Bool × Addr) (tss : List (List Int)) : Prop := ∃ xs, SqH H q xs ∧ RowsR H xs tss
theorem RowsQ.mono {H H2 : Hp} {q : Bool × Addr} {tss : List (List Int)} (e : Ex H H2) (h : RowsQ H q tss) : RowsQ H2 q tss := by
  obtain ⟨xs, h1, h2⟩ := h
  exact ⟨xs, h1.mono e, h2.mono e⟩
theorem RowsQ.dp {K : PySem.W.Frag} {H : Hp} {q : Bool × Addr} {tss : List (List Int)} (h : RowsQ H q tss) : Dp K H (.ref q.2) (.list (tss.map iT)) ∨ Dp K H (.ref q.2) (.tuple (tss.map iT)) := by
  obtain ⟨xs, h1, h2⟩ := h
  obtain ⟨b, a⟩ := q
  cases b
  · exact .inl (.lst (SqL.of (show H a = some (.lst xs) from h1)) h2.dp)
  · exact .inr (.tup (SqT.of (show H a = some (.tup xs) from h1)) h2.dp)
theorem any_rows (tss : List (List Int)) (ps : List Int) : ((tss.map iT).any fun z => PyData.eqv z (iT ps)) = decide (ps ∈ tss) := by
  rw [List.any_map, Bool.eq_iff_iff, List.any_eq_true, decide_eq_true_eq]
  constructor
  · rintro ⟨x, hx, h⟩
    have h2 : PyData.eqv (iT x) (iT ps) = true := h
    rw [eqv_ints] at h2
    rw [← of_decide_eq_true h2]
    exact hx
  · intro h
    refine ⟨ps, h, ?_⟩
    show PyData.eqv (iT ps) (iT ps) = true
    rw [eqv_ints]
    simp
abbrev kI (ps : List Int) : List Key := ps.map Sum.inl
theorem kI_map (ps : List Int) : (kI ps).map kV = ps.map V.int := by
  rw [List.map_map]
  rfl
theorem kI_inj {a b : List Int} (h : kI a = kI b) : a = b := by
  induction a generalizing b with
  | nil =>
    cases b with
    | nil => rfl
    | cons y ys => simp at h
  | cons x xs ih =>
    cases b with
    | nil => simp at h
    | cons y ys =>
      simp only [List.map_cons, List.cons.injEq, Sum.inl.injEq] at h
      rw [h.1, ih h.2]
theorem nodup_get {α : Type} {l : List α} (nod : l.Nodup) {i : Nat} {t : α} (ht : l[i]? = some t) : ¬ t ∈ l.take i := by
  intro hm
  obtain ⟨j, hj⟩ := List.getElem?_of_mem hm
  obtain ⟨jl, je⟩ := List.getElem?_eq_some_iff.mp hj
  rw [List.length_take] at jl
  rw [List.getElem_take] at je
  obtain ⟨il, ie⟩ := List.getElem?_eq_some_iff.mp ht
  exact absurd (je.trans ie.symm) (List.pairwise_iff_getElem.mp nod j i (by omega) il (by omega))
theorem put_len {κ : Type} [DecidableEq κ] {kvs : List (κ × V)} {k : κ} {v : V} (h : valV kvs k = none) : (putK kvs k v).length = kvs.length + 1 := by
  rw [putK_new v h, List.length_append]
  rfl
section
variable {P : Program} {w : World} {K : PySem.W.Frag} {mg : Str → Option Value} {base : Heap}
def sp_require_table (C : Addr) : Sp := fun vs H Q _ => ∃ (a : Addr) (ns : List Int), vs = [.ref a] ∧ TabAt C H a ns ∧ Q .non H
theorem ok_require_table (T : TX K mg) : FnOk P w K mg base CX0 5 T.f_require_table T.fd_require_table ["table"] (sp_require_table T.C_Table) := by
  refine T.F_require_table.ok sc_require_table (fun vs H Q E h => ?_) (fun cdv A outer s H vs Q E hr h => ?_)
  · obtain ⟨a, ns, rfl, _⟩ := h
    rfl
  · obtain ⟨a, ns, rfl, ⟨dx, t, h1, h2⟩, k⟩ := h
    refine ⟨_, (pss_one (ps_if (pt_not (pt_val (pe_callB call_isi (by rfl) T.z_isinstance (by decide +kernel) (pa_cons (pv 0) (pa_cons (pe_glob (v := .ref T.C_Table) rfl T.m_Table rfl) pa_nil))))) pss_never pss_nil)), ?_⟩
    exact ⟨_, rfl, _, _, _, _, true, rfl, .own _, .base (.ins h1 T.cl_Table T.ic_Table T.ig_ T.it_ T.im_Table), kit_self, _, rfl, itf rfl k⟩
def sp_require_targets (C : Addr) : Sp := fun vs H Q _ => ∃ (a : Addr) (q : Bool × Addr) (ns : List Int) (tss : List (List Int)), vs = [.ref a, .ref q.2] ∧ TabAt C H a ns ∧ ns.length ≤ 4 ∧ RowsQ H q tss ∧ tss ≠ [] ∧ tss.length ≤ 100000 ∧ (∀ ts ∈ tss, SeatOk ns ts) ∧ tss.Nodup ∧ ∀ H2, Ex H H2 → Q .non H2
theorem ok_require_targets (T : TX K mg) : FnOk P w K mg base CX0 4 T.f_require_targets T.fd_require_targets ["table", "targets"] (sp_require_targets T.C_Table) := by
  refine T.F_require_targets.ok sc_require_targets (fun vs H Q E h => ?_) (fun cdv A outer s H vs Q E hr h => ?_)
  · obtain ⟨a, q, ns, tss, rfl, _⟩ := h
    rfl
  · obtain ⟨a, ⟨b, q⟩, ns, tss, rfl, tab, l4, ⟨xs, hq, rr⟩, ne, lts, sks, nod, k⟩ := h
    refine ⟨_, (pss_cons (ps_if (PW.pt (pw_or (pt_not (pt_val (pe_callB call_isiT (by rfl) T.z_isinstance (by decide +kernel) (pa_cons (pv 1) (pa_cons (pe_tup (pa_cons (pe_bltn (v := .ty "list") rfl T.z_list (by decide +kernel) rfl) (pa_cons (pe_bltn (v := .ty "tuple") rfl T.z_tuple (by decide +kernel) rfl) pa_nil))) pa_nil))))) (pw_or1 (pt_cmpR op_eq (pe_callB call_len_seq (by rfl) T.z_len (by decide +kernel) (pa_cons (pv 1) pa_nil)) pe_int (nomark _))))) pss_never pss_nil) (pss_cons (ps_set (i := 2) sc_require_targets.nd rfl (Or.inl rfl) pe_dnewT) (pss_one (ps_for PassesOwn.never rfl (CE.pi_e rfl T.z_enumerate (pa_cons (pv 1) pa_nil)) (pg_tup rfl (pgs_cons (pg_name (i := 3) sc_require_targets.nd rfl (Or.inl rfl)) (pgs_cons (pg_name (i := 4) sc_require_targets.nd rfl (Or.inl rfl)) pgs_nil))) (pss_cons (ps_if (PW.pt (pw_or (pt_not (pt_val (pe_meth (pv 0) T.cl_Table T.me_Table_is_seat (ok_Table_is_seat T) hr T.b_Table_is_seat .nil pass0 (pa_cons (pv 4) pa_nil)))) (pw_or1 (pt_cmp (pc_din (hu_of hr) (pv 4) (pv 2)))))) pss_never pss_nil) (pss_one (ps_dput (hu_of hr) (pv 2) (pv 4) (pv 3) (by rfl)))))))), ?_⟩
    have lx := rr.len
    (repeat (first | refine ⟨rfl, ?_⟩ | refine ⟨_, rfl, ?_⟩ | refine ⟨_, _, rfl, rfl, ?_⟩ | refine ⟨_, _, rfl, ?_⟩ | refine ⟨slen rfl, ?_⟩ | refine ⟨⟨by decide, by decide +kernel⟩, ?_⟩ | refine ⟨⟨by decide, by decide, by decide⟩, ?_⟩ | refine ⟨(by show (0 : Int) < _; first | decide | assumption | omega), ?_⟩ | refine ⟨mul_ok (by first | exact .inr (by decide) | exact .inl (by decide)), ?_⟩))
    (intro y ny; generalize hGy : upd _ y _ = H1; have eH1 := exG hGy ny; have hy := atG hGy; clear hGy)
    have q1 := hq.mono eH1
    refine ⟨_, y, _, _, _, true, rfl, hy, .cons (.ty _) (.cons (.ty _) .nil), q1.ty, kit_seq b, _, rfl, ?_⟩
    refine ⟨_, rfl, q, _, rfl, sq_or q1, rfl, _, rfl, itf (by rw [dec_int, lx]; simp; exact ne) ?_⟩
    (intro d nd; generalize hGd : upd _ d _ = H2; have eH2 := exG hGd nd; have hd := atG hGd; clear hGd)
    have e2 : Ex H H2 := ext eH1 eH2
    have nd0 : H d = none := Evl.fresh_back eH1 nd
    refine ⟨_, rfl, (b, q), rfl, ⟨_, (hq.mono e2).sq⟩, ?_⟩
    refine for_it (CE.walk_e (xs := xs)) (fun i σ H3 => ∃ (y3 y4 : Option V) (kvs : List (List Key × V)), σ = [some (.ref a), some (.ref q), some (.ref d), y3, y4] ∧ Ex H H3 ∧ H3 d = some (.dT kvs) ∧ kvs.length = i ∧ ∀ ts : List Int, (valV kvs (kI ts)).isSome = true → ts ∈ tss.take i) ⟨_, _, [], rfl, e2, hd, rfl, fun t h => by simp [valV] at h⟩ (fun i σ H2 _ ⟨_, _, _, _, e, _⟩ => (hq.mono e).sq) ?_ ?_
    · rintro i x σ H3 H4 hi ⟨y3, y4, kvs, rfl, e3, hd3, lk, hv⟩ ⟨Ta, x1, x2, rfl, hT, rfl, hx1, hx2⟩
      cases hx1
      obtain ⟨ts, r, ht, rfl, hr0⟩ := rr.get hx2
      have sk := sks ts (List.mem_of_getElem? ht)
      have lt := sk.len
      have e4 : Ex H (upd H3 Ta (.tup [.int (i : Nat), .ref r])) := ext e3 (exn hT)
      have hd4 := exn (o := .tup [.int (i : Nat), .ref r]) hT _ _ hd3
      refine ⟨Ta, _, rfl, SqT.of upd_same, rfl, _, _, rfl, _, _, rfl, rfl, ?_⟩
      generalize upd H3 Ta (.tup [.int (i : Nat), .ref r]) = H4 at e4 hd4
      obtain ⟨dx, t, g1, g2⟩ := tab.mono e4
      refine ⟨_, rfl, a, dx, _, rfl, g1, rfl, _, rfl, a, _, ns, _, rfl, tab.mono e4, l4, TupA.ints (e4 _ _ hr0) (by omega), fun H5 e5 => ?_⟩
      refine ⟨_, rfl, itf (by rw [isSeat_ok sk]; rfl) ?_⟩
      have hno : valV kvs (kI ts) = none := by
        cases hz : valV kvs (kI ts) with
        | none => rfl
        | some v => exact absurd (hv ts (by rw [hz]; rfl)) (nodup_get nod ht)
      have hd5 := e5 _ _ hd4
      have hr5 : H5 r = some (.tup ((kI ts).map kV)) := by rw [kI_map]; exact e5 _ _ (e4 _ _ hr0)
      refine ⟨_, rfl, _, rfl, d, _, rfl, DGet.t hd5 hr5, _, rfl, itf (by rw [hno]; rfl) ?_⟩
      refine ⟨_, rfl, _, rfl, _, rfl, d, _, rfl, DPut.t hd5 hr5 ?_, ?_⟩
      · rw [lk]
        exact Nat.lt_of_lt_of_le (show i < tss.length by omega) (Nat.le_trans lts (by decide))
      · refine ⟨_, _, putK kvs (kI ts) (.int (i : Nat)), rfl, ?_, upd_same, by rw [put_len hno, lk], fun us hu => ?_⟩
        · intro c o z
          rw [upd_ne (ne_of_none z nd0)]
          exact e5 c o (e4 c o z)
        · rw [valV_put] at hu
          rw [take_more ht, List.mem_append]
          by_cases e : us = ts
          · exact .inr (by rw [e]; exact List.mem_cons_self)
          · rw [if_neg (fun z => e (kI_inj z))] at hu
            exact .inl (hv us hu)
    · rintro σ H2 ⟨y3, y4, kvs, rfl, e3, _⟩
      exact k _ e3
end

abbrev dirS (b : Bool) : Str := if b = true then "backward" else "forward"
abbrev sgD (b : Bool) : Int := if b = true then -1 else 1
/-- moves: refs of (call, direction) -/
def MovR (H : Hp) (xs : List V) (ms : List (List Int × Bool)) : Prop := Paired (fun x m => ∃ r c, x = V.ref r ∧ H r = some (.tup [.ref c, .str (dirS m.2)]) ∧ H c = some (.tup (m.1.map V.int))) xs ms
theorem MovR.mono {H H2 : Hp} (e : Ex H H2) : ∀ {xs : List V} {ms : List (List Int × Bool)}, MovR H xs ms → MovR H2 xs ms
  | _, _, .nil => .nil
  | _, _, .cons ⟨r, c, h1, h2, h3⟩ t => .cons ⟨r, c, h1, e _ _ h2, e _ _ h3⟩ (MovR.mono e t)
theorem MovR.len {H : Hp} : ∀ {xs : List V} {ms : List (List Int × Bool)}, MovR H xs ms → xs.length = ms.length
  | _, _, .nil => rfl
  | _, _, .cons _ t => by rw [List.length_cons, List.length_cons, MovR.len t]
theorem MovR.snoc {H : Hp} {r c : Addr} {m : List Int × Bool} (h : H r = some (.tup [.ref c, .str (dirS m.2)])) (hc : H c = some (.tup (m.1.map V.int))) : ∀ {xs : List V} {ms : List (List Int × Bool)}, MovR H xs ms → MovR H (xs ++ [.ref r]) (ms ++ [m])
  | _, _, .nil => .cons ⟨r, c, rfl, h, hc⟩ .nil
  | _, _, .cons q t => .cons q (MovR.snoc h hc t)
theorem MovR.upd {H : Hp} {D : Addr} {ys zs : List V} (hD : H D = some (.lst ys)) : ∀ {xs : List V} {ms : List (List Int × Bool)}, MovR H xs ms → MovR (upd H D (.lst zs)) xs ms
  | _, _, .nil => .nil
  | _, _, .cons ⟨r, c, h1, h2, h3⟩ t => .cons ⟨r, c, h1, by rw [upd_ne (ne_of h2 hD (by intro z; cases z))]; exact h2, by rw [upd_ne (ne_of h3 hD (by intro z; cases z))]; exact h3⟩ (MovR.upd hD t)
def MovQ (H : Hp) (q : Bool × Addr) (ms : List (List Int × Bool)) : Prop := ∃ xs, SqH H q xs ∧ MovR H xs ms
theorem MovQ.mono {H H2 : Hp} {q : Bool × Addr} {ms : List (List Int × Bool)} (e : Ex H H2) (h : MovQ H q ms) : MovQ H2 q ms := by
  obtain ⟨xs, h1, h2⟩ := h
  exact ⟨xs, h1.mono e, h2.mono e⟩
/-- where the walker is -/
def posL (ns st : List Int) (ms : List (List Int × Bool)) : List Int := ms.foldl (fun p m => shiftL ns p m.1 (sgD m.2)) st
def walkL (ns st : List Int) (ms : List (List Int × Bool)) : List (List Int) := (List.range (ms.length + 1)).map fun i => posL ns st (ms.take i)
theorem pos_snoc (ns st : List Int) (ms : List (List Int × Bool)) (m : List Int × Bool) : posL ns st (ms ++ [m]) = shiftL ns (posL ns st ms) m.1 (sgD m.2) := by
  unfold posL
  rw [List.foldl_append]
  rfl
theorem walk_snoc (ns st : List Int) (ms : List (List Int × Bool)) (m : List Int × Bool) : walkL ns st (ms ++ [m]) = walkL ns st ms ++ [posL ns st (ms ++ [m])] := by
  unfold walkL
  rw [List.length_append, List.length_singleton, List.range_succ, List.map_append]
  congr 1
  · refine List.map_congr_left fun i hi => ?_
    rw [List.take_append_of_le_length (by have := List.mem_range.mp hi; omega)]
  · rw [List.map_cons, List.map_nil, List.take_of_length_le (by simp)]
theorem walk_last (ns st : List Int) (ms : List (List Int × Bool)) : ∃ hss, walkL ns st ms = hss ++ [posL ns st ms] := by
  unfold walkL
  rw [List.range_succ, List.map_append]
  exact ⟨_, by rw [List.map_cons, List.map_nil, List.take_of_length_le (Nat.le_refl _)]⟩
theorem walk_len (ns st : List Int) (ms : List (List Int × Bool)) : (walkL ns st ms).length = ms.length + 1 := by simp [walkL]
theorem pos_ok {ns st : List Int} (one : ∀ n ∈ ns, 1 ≤ n) (sk : SeatOk ns st) : ∀ {ms : List (List Int × Bool)}, (∀ m ∈ ms, m.1.length = ns.length) → SeatOk ns (posL ns st ms)
  | [], _ => sk
  | m :: ms, h => by
    show SeatOk ns (posL ns (shiftL ns st m.1 (sgD m.2)) ms)
    exact pos_ok one (shift_seat one sk.len (h m List.mem_cons_self)) fun n hn => h n (List.mem_cons_of_mem _ hn)
theorem atI_last {α : Type} (ys : List α) (v : α) : atI (ys ++ [v]) (-1) = some v := by
  unfold atI ixN
  rw [if_neg (by decide), if_pos (by rw [List.length_append, List.length_singleton]; omega), List.length_append, List.length_singleton]
  have : ((-1 : Int) + ((ys.length + 1 : Nat) : Int)).toNat = ys.length := by omega
  show (ys ++ [v])[((-1 : Int) + ((ys.length + 1 : Nat) : Int)).toNat]? = some v
  rw [this, List.getElem?_append_right (Nat.le_refl _), Nat.sub_self]
  rfl
theorem RowsR.last {H : Hp} {xs : List V} {hss : List (List Int)} {hs : List Int} (h : RowsR H xs (hss ++ [hs])) : ∃ ys r, xs = ys ++ [V.ref r] ∧ H r = some (.tup (hs.map V.int)) := by
  have l := h.len
  rcases List.eq_nil_or_concat xs with rfl | ⟨ys, y, rfl⟩
  · simp at l
  simp only [List.concat_eq_append] at h l ⊢
  have l2 : ys.length = hss.length := by simpa using l
  obtain ⟨hs2, r, e1, rfl, e3⟩ := h.get (i := ys.length) (by rw [List.getElem?_append_right (Nat.le_refl _), Nat.sub_self]; rfl)
  rw [l2, List.getElem?_append_right (Nat.le_refl _), Nat.sub_self] at e1
  obtain rfl : hs = hs2 := Option.some.inj e1
  exact ⟨ys, r, rfl, e3⟩
section
variable {P : Program} {w : World} {K : PySem.W.Frag} {mg : Str → Option Value} {base : Heap}
def sp_is_move (C : Addr) : Sp := fun vs H Q _ => ∃ (a r c : Addr) (ns cs : List Int) (bk : Bool), vs = [.ref a, .ref r] ∧ TabAt C H a ns ∧ ns.length ≤ 4 ∧ H r = some (.tup [.ref c, .str (dirS bk)]) ∧ H c = some (.tup (cs.map V.int)) ∧ cs.length = ns.length ∧ ∀ H2, Ex H H2 → Q (.bl true) H2
theorem ok_is_move (T : TX K mg) : FnOk P w K mg base CX0 3 T.f_is_move T.fd_is_move ["table", "value"] (sp_is_move T.C_Table) := by
  refine T.F_is_move.ok sc_is_move (fun vs H Q E h => ?_) (fun cdv A outer s H vs Q E hr h => ?_)
  · obtain ⟨a, r, c, ns, cs, bk, rfl, _⟩ := h
    rfl
  · obtain ⟨a, r, c, ns, cs, bk, rfl, tab, l4, hr1, hc, lc, k⟩ := h
    refine ⟨_, (pss_cons (ps_if (PW.pt (pw_or (pt_not (pt_val (pe_callB call_isi (by rfl) T.z_isinstance (by decide +kernel) (pa_cons (pv 1) (pa_cons (pe_bltn (v := .ty "tuple") rfl T.z_tuple (by decide +kernel) rfl) pa_nil))))) (pw_or1 (pt_cmpR op_ne (pe_callB call_len_seq (by rfl) T.z_len (by decide +kernel) (pa_cons (pv 1) pa_nil)) pe_int (nomark _))))) (pss_one (ps_ret pe_bl)) pss_nil) (pss_one (ps_ret (pe_and (pe_meth (pv 0) T.cl_Table T.me_Table_is_call (ok_Table_is_call T) hr T.b_Table_is_call .nil pass0 (pa_cons (pe_ix ix_tup (pv 1) pe_int (fun _ _ => rfl)) pa_nil)) (pe_one (pe_call (ok_is_direction T) (hr.mono (by decide)) rfl T.m_is_direction T.F_is_direction.kp T.b_is_direction .nil pass0 (pa_cons (pe_ix ix_tup (pv 1) pe_int (fun _ _ => rfl)) pa_nil))))))), ?_⟩
    obtain ⟨dx, t, g1, g2⟩ := id tab
    refine ⟨_, rfl, _, _, _, _, true, rfl, .ty _, .base (.tup hr1), kit_ty (by decide +kernel), _, rfl, ?_⟩
    refine ⟨_, rfl, r, _, rfl, .inr (SqT.of hr1), rfl, _, rfl, ?_⟩
    refine ⟨_, rfl, a, dx, _, rfl, g1, rfl, _, rfl, r, _, _, _, rfl, rfl, SqT.of hr1, rfl, a, _, ns, _, rfl, tab, TupA.ints hc (by omega), fun H1 e1 => ?_⟩
    rw [isCall_ok lc]
    refine ⟨_, rfl, ?_⟩
    refine ⟨_, rfl, r, _, _, _, rfl, rfl, SqT.of (e1 _ _ hr1), rfl, _, some (dirS bk), rfl, rfl, fun H2 e2 => ?_⟩
    have : isDirO (some (dirS bk)) = true := by cases bk <;> decide +kernel
    rw [this]
    exact k _ (ext e1 e2)
def sp_require_moves (C : Addr) : Sp := fun vs H Q _ => ∃ (a : Addr) (q : Bool × Addr) (ns : List Int) (ms : List (List Int × Bool)), vs = [.ref a, .ref q.2] ∧ TabAt C H a ns ∧ ns.length ≤ 4 ∧ MovQ H q ms ∧ (∀ m ∈ ms, m.1.length = ns.length) ∧ ∀ H2, Ex H H2 → Q .non H2
theorem ok_require_moves (T : TX K mg) : FnOk P w K mg base CX0 4 T.f_require_moves T.fd_require_moves ["table", "moves"] (sp_require_moves T.C_Table) := by
  refine T.F_require_moves.ok sc_require_moves (fun vs H Q E h => ?_) (fun cdv A outer s H vs Q E hr h => ?_)
  · obtain ⟨a, q, ns, ms, rfl, _⟩ := h
    rfl
  · obtain ⟨a, ⟨b, q⟩, ns, ms, rfl, tab, l4, ⟨xs, hq, rr⟩, hm, k⟩ := h
    refine ⟨_, (pss_cons (ps_if (pt_not (pt_val (pe_callB call_isiT (by rfl) T.z_isinstance (by decide +kernel) (pa_cons (pv 1) (pa_cons (pe_tup (pa_cons (pe_bltn (v := .ty "list") rfl T.z_list (by decide +kernel) rfl) (pa_cons (pe_bltn (v := .ty "tuple") rfl T.z_tuple (by decide +kernel) rfl) pa_nil))) pa_nil))))) pss_never pss_nil) (pss_one (ps_for PassesOwn.never rfl (CE.pi_e rfl T.z_enumerate (pa_cons (pv 1) pa_nil)) (pg_tup rfl (pgs_cons (pg_name (i := 2) sc_require_moves.nd rfl (Or.inl rfl)) (pgs_cons (pg_name (i := 3) sc_require_moves.nd rfl (Or.inl rfl)) pgs_nil))) (pss_one (ps_if (pt_not (pt_val (pe_call (ok_is_move T) hr rfl T.m_is_move T.F_is_move.kp T.b_is_move .nil pass0 (pa_cons (pv 0) (pa_cons (pv 3) pa_nil))))) pss_never pss_nil))))), ?_⟩
    (repeat (first | refine ⟨rfl, ?_⟩ | refine ⟨_, rfl, ?_⟩ | refine ⟨_, _, rfl, rfl, ?_⟩ | refine ⟨_, _, rfl, ?_⟩ | refine ⟨slen rfl, ?_⟩ | refine ⟨⟨by decide, by decide +kernel⟩, ?_⟩ | refine ⟨⟨by decide, by decide, by decide⟩, ?_⟩ | refine ⟨(by show (0 : Int) < _; first | decide | assumption | omega), ?_⟩ | refine ⟨mul_ok (by first | exact .inr (by decide) | exact .inl (by decide)), ?_⟩))
    (intro y ny; generalize hGy : upd _ y _ = H1; have eH1 := exG hGy ny; have hy := atG hGy; clear hGy)
    have q1 := hq.mono eH1
    refine ⟨_, y, _, _, _, true, rfl, hy, .cons (.ty _) (.cons (.ty _) .nil), q1.ty, kit_seq b, _, rfl, itf rfl ?_⟩
    refine ⟨_, rfl, (b, q), rfl, ⟨_, q1.sq⟩, ?_⟩
    refine for_it (CE.walk_e (xs := xs)) (fun i σ H3 => (∃ (y2 y3 : Option V), σ = [some (.ref a), some (.ref q), y2, y3]) ∧ Ex H H3) ⟨⟨_, _, rfl⟩, eH1⟩ (fun i σ H2 _ ⟨_, e⟩ => (hq.mono e).sq) ?_ ?_
    · rintro i x σ H3 H4 hi ⟨⟨y2, y3, rfl⟩, e3⟩ ⟨Ta, x1, x2, rfl, hT, rfl, hx1, hx2⟩
      cases hx1
      obtain ⟨m, hmi, r, c, rfl, hr0, hc0⟩ := paired_get rr hx2
      have e4 : Ex H (upd H3 Ta (.tup [.int (i : Nat), .ref r])) := ext e3 (exn hT)
      refine ⟨Ta, _, rfl, SqT.of upd_same, rfl, _, _, rfl, _, _, rfl, rfl, ?_⟩
      refine ⟨_, rfl, _, rfl, a, r, c, ns, m.1, m.2, rfl, tab.mono e4, l4, e4 _ _ hr0, e4 _ _ hc0, hm m (List.mem_of_getElem? hmi), fun H5 e5 => ?_⟩
      exact ⟨_, rfl, itf rfl ⟨⟨_, _, rfl⟩, ext e4 e5⟩⟩
    · rintro σ H3 ⟨⟨y2, y3, rfl⟩, e3⟩
      exact k _ e3
def sp_visited_seats (C : Addr) : Sp := fun vs H Q _ => ∃ (a s : Addr) (q : Bool × Addr) (ns ps : List Int) (ms : List (List Int × Bool)), vs = [.ref a, .ref s, .ref q.2] ∧ TabAt C H a ns ∧ SzOk ns ∧ H s = some (.tup (ps.map V.int)) ∧ SeatOk ns ps ∧ MovQ H q ms ∧ ms.length ≤ 100000 ∧ (∀ m ∈ ms, m.1.length = ns.length) ∧ ∀ f H2, Ex H H2 → H f = none → RowsAt H2 f (walkL ns ps ms) → Q (.ref f) H2
theorem ok_visited_seats (T : TX K mg) : FnOk P w K mg base CX0 7 T.f_visited_seats T.fd_visited_seats ["table", "seat", "moves"] (sp_visited_seats T.C_Table) := by
  refine T.F_visited_seats.ok sc_visited_seats (fun vs H Q E h => ?_) (fun cdv A outer s H vs Q E hr h => ?_)
  · obtain ⟨a, s, q, ns, ps, ms, rfl, _⟩ := h
    rfl
  · obtain ⟨a, s, ⟨b, q⟩, ns, ps, ms, rfl, tab, ok, hs, sk, ⟨xs, hq, rr⟩, lm, hm, k⟩ := h
    refine ⟨_, (pss_cons (ps_set (i := 3) sc_visited_seats.nd rfl (Or.inl rfl) (pe_lst (pa_cons (pv 1) pa_nil))) (pss_cons (ps_for PassesOwn.never rfl (pi_seq (pv 2)) (pg_tup rfl (pgs_cons (pg_name (i := 4) sc_visited_seats.nd rfl (Or.inl rfl)) (pgs_cons (pg_name (i := 5) sc_visited_seats.nd rfl (Or.inl rfl)) pgs_nil))) (pss_one (ps_expr (pe_bm PySem.F.plainAttrs_list PySem.F.slot_list_append PySem.F.type_list_append mt_append (pv 3) (pa_cons (pe_meth (pv 0) T.cl_Table T.me_Table_step (ok_Table_step T) hr T.b_Table_step .nil pass0 (pa_cons (pe_ix ix_list (pv 3) (pe_un un_neg pe_int) (fun _ _ => rfl)) (pa_cons (pv 4) (pa_cons (pv 5) pa_nil)))) pa_nil))))) (pss_one (ps_ret (pv 3))))), ?_⟩
    have lx := rr.len
    (repeat (first | refine ⟨rfl, ?_⟩ | refine ⟨_, rfl, ?_⟩ | refine ⟨_, _, rfl, rfl, ?_⟩ | refine ⟨_, _, rfl, ?_⟩ | refine ⟨slen rfl, ?_⟩ | refine ⟨⟨by decide, by decide +kernel⟩, ?_⟩ | refine ⟨⟨by decide, by decide, by decide⟩, ?_⟩ | refine ⟨(by show (0 : Int) < _; first | decide | assumption | omega), ?_⟩ | refine ⟨mul_ok (by first | exact .inr (by decide) | exact .inl (by decide)), ?_⟩))
    (intro f nf; generalize hGf : upd _ f _ = H1; have eH1 := exG hGf nf; have hf := atG hGf; clear hGf)
    refine ⟨_, rfl, (b, q), rfl, ⟨_, (hq.mono eH1).sq⟩, ?_⟩
    refine for_it (walk_seq (xs := xs)) (fun i σ H3 => (∃ (y4 y5 : Option V), σ = [some (.ref a), some (.ref s), some (.ref q), some (.ref f), y4, y5]) ∧ Ex H H3 ∧ RowsAt H3 f (walkL ns ps (ms.take i))) ⟨⟨_, _, rfl⟩, eH1, _, hf, .cons ⟨s, rfl, eH1 _ _ hs⟩ .nil⟩ (fun i σ H2 _ ⟨_, e, _⟩ => (hq.mono e).sq) ?_ ?_
    · rintro i x σ _ H3 hi ⟨⟨y4, y5, rfl⟩, e3, ra⟩ ⟨rfl, hx⟩
      obtain ⟨m, hmi, r, c, rfl, hr0, hc0⟩ := paired_get rr hx
      obtain ⟨hss, eh⟩ := walk_last ns ps (ms.take i)
      obtain ⟨zs, hz1, hz2⟩ := id ra
      rw [eh] at hz2
      obtain ⟨ys, u, rfl, hu⟩ := hz2.last
      have skp := pos_ok ok.one sk (ms := ms.take i) fun m h => hm m (List.mem_of_mem_take h)
      have lc := hm m (List.mem_of_getElem? hmi)
      obtain ⟨dx, t, g1, g2⟩ := tab.mono e3
      refine ⟨r, _, rfl, SqT.of (e3 _ _ hr0), rfl, _, _, rfl, _, _, rfl, rfl, ?_⟩
      refine ⟨_, rfl, .inl ⟨rfl, _, SqL.of hz1⟩, ?_⟩
      refine ⟨_, rfl, a, dx, _, rfl, g1, rfl, _, rfl, _, rfl, f, _, _, _, rfl, rfl, SqL.of hz1, atI_last _ _, _, rfl, _, rfl, a, u, c, ns, _, m.1, m.2, rfl, tab.mono e3, ok, hu, e3 _ _ hc0, skp, lc, fun H4 z e4 nz hz => ?_⟩
      obtain ⟨acc, p1, p2, p3⟩ := rows_push (ra.mono e4) hz
      refine ⟨f, _, _, rfl, rfl, p1, ?_, ⟨_, _, rfl⟩, ex_upd (ext e3 e4) nf, ?_⟩
      · rw [p2, walk_len, List.length_take]
        exact Nat.lt_of_le_of_lt (show _ ≤ 100001 by omega) (by decide)
      · rw [take_more hmi, walk_snoc, pos_snoc]
        exact p3
    · rintro σ H3 ⟨⟨y4, y5, rfl⟩, e3, ra⟩
      rw [lx, List.take_length] at ra
      exact ⟨_, rfl, k f _ e3 nf ra⟩
end

/-- a record stands at a -/
def RecAt (CR C : Addr) (H : Hp) (a : Addr) (ns st : List Int) (tss : List (List Int)) (ms : List (List Int × Bool)) : Prop :=
  ∃ (dx tb g p v : Addr) (gs ps vs : List V), H a = some (.ins CR dx [("table", .ref tb), ("goals", .ref g), ("played", .ref p), ("visited", .ref v)]) ∧ TabAt C H tb ns ∧ H g = some (.tup gs) ∧ RowsR H gs tss ∧ H p = some (.tup ps) ∧ MovR H ps ms ∧ H v = some (.tup vs) ∧ RowsR H vs (walkL ns st ms)
theorem RecAt.mono {CR C : Addr} {H H2 : Hp} {a : Addr} {ns st : List Int} {tss : List (List Int)} {ms : List (List Int × Bool)} (e : Ex H H2) (h : RecAt CR C H a ns st tss ms) : RecAt CR C H2 a ns st tss ms := by
  obtain ⟨dx, tb, g, p, v, gs, ps, vs, h1, h2, h3, h4, h5, h6, h7, h8⟩ := h
  exact ⟨dx, tb, g, p, v, gs, ps, vs, e _ _ h1, h2.mono e, e _ _ h3, h4.mono e, e _ _ h5, h6.mono e, e _ _ h7, h8.mono e⟩
section
variable {P : Program} {w : World} {K : PySem.W.Frag} {mg : Str → Option Value} {base : Heap}
def sp_Record_init (CR C : Addr) : Sp := fun vs H Q _ => ∃ (p dx a s : Addr) (q m : Bool × Addr) (ns st : List Int) (tss : List (List Int)) (ms : List (List Int × Bool)) (H0 : Hp), vs = [.ref p, .ref a, .ref q.2, .ref s, .ref m.2] ∧ H p = some (.ins CR dx []) ∧ H0 p = none ∧ Ex H0 H ∧ TabAt C H0 a ns ∧ SzOk ns ∧ RowsQ H0 q tss ∧ tss ≠ [] ∧ tss.length ≤ 100000 ∧ (∀ ts ∈ tss, SeatOk ns ts) ∧ tss.Nodup ∧
  H0 s = some (.tup (st.map V.int)) ∧ SeatOk ns st ∧ MovQ H0 m ms ∧ ms.length ≤ 100000 ∧ (∀ m ∈ ms, m.1.length = ns.length) ∧ ∀ H2, Ex H0 H2 → RecAt CR C H2 p ns st tss ms → Q .non H2
theorem ok_Record_init (T : TX K mg) : FnOk P w K mg base CX0 8 T.f_Record_init T.fd_Record_init ["self", "table", "targets", "seat", "moves"] (sp_Record_init T.C_Record T.C_Table) := by
  refine T.F_Record_init.ok sc_Record_init (fun vs H Q E h => ?_) (fun cdv A outer s H vs Q E hr h => ?_)
  · obtain ⟨p, dx, a, s, q, m, ns, st, tss, ms, H0, rfl, _⟩ := h
    rfl
  · obtain ⟨p, dx, a, s, q, m, ns, st, tss, ms, H0, rfl, hp, np, e0, tab, ok, hq, ne, lt, sks, nod, hs, sk, hm, lm, hmm, k⟩ := h
    refine ⟨_, (pss_cons (ps_expr (pe_call (ok_require_table T) (hr.mono (by decide)) rfl T.m_require_table T.F_require_table.kp T.b_require_table .nil pass0 (pa_cons (pv 1) pa_nil))) (pss_cons (ps_expr (pe_call (ok_require_targets T) (hr.mono (by decide)) rfl T.m_require_targets T.F_require_targets.kp T.b_require_targets .nil pass0 (pa_cons (pv 1) (pa_cons (pv 2) pa_nil)))) (pss_cons (ps_expr (pe_call (ok_require_seat T) (hr.mono (by decide)) rfl T.m_require_seat T.F_require_seat.kp T.b_require_seat .nil pass0 (pa_cons (pv 1) (pa_cons (pv 3) pa_nil)))) (pss_cons (ps_expr (pe_call (ok_require_moves T) (hr.mono (by decide)) rfl T.m_require_moves T.F_require_moves.kp T.b_require_moves .nil pass0 (pa_cons (pv 1) (pa_cons (pv 4) pa_nil)))) (pss_cons (ps_asg (pe_tup (pa_cons (pv 1) (pa_cons (pe_callTy call_tuple_q (by rfl) T.z_tuple (by decide +kernel) (pa_cons (pv 2) pa_nil)) (pa_cons (pe_callTy call_tuple_q (by rfl) T.z_tuple (by decide +kernel) (pa_cons (pv 4) pa_nil)) pa_nil)))) (pg_tup rfl (pgs_cons (pg_fld (pv 0)) (pgs_cons (pg_fld (pv 0)) (pgs_cons (pg_fld (pv 0)) pgs_nil))))) (pss_one (ps_fld (pv 0) (pe_callTy call_tuple_of (by rfl) T.z_tuple (by decide +kernel) (pa_cons (pe_call (ok_visited_seats T) hr rfl T.m_visited_seats T.F_visited_seats.kp T.b_visited_seats .nil pass0 (pa_cons (pv 1) (pa_cons (pv 3) (pa_cons (pv 4) pa_nil)))) pa_nil)) rfl))))))), ?_⟩
    have l4 := ok.le
    refine ⟨_, rfl, a, ns, rfl, tab.mono e0, ?_⟩
    refine ⟨_, rfl, _, rfl, a, q, ns, tss, rfl, tab.mono e0, l4, hq.mono e0, ne, lt, sks, nod, fun H1 e1 => ?_⟩
    have E1 := ext e0 e1
    refine ⟨_, rfl, _, rfl, a, _, ns, _, rfl, tab.mono E1, l4, TupA.ints (E1 _ _ hs) (by rw [sk.len]; omega), isSeat_ok sk, fun H2 e2 => ?_⟩
    have E2 := ext E1 e2
    refine ⟨_, rfl, _, rfl, a, m, ns, ms, rfl, tab.mono E2, l4, hm.mono E2, hmm, fun H3 e3 => ?_⟩
    have E3 := ext E2 e3
    have hp3 := e3 _ _ (e2 _ _ (e1 _ _ hp))
    obtain ⟨gs, hq1, hq2⟩ := hq.mono E3
    obtain ⟨ps, hm1, hm2⟩ := hm.mono E3
    refine ⟨_, rfl, _, rfl, q, _, rfl, hq1, fun g H4 e4 hg => ?_⟩
    refine ⟨_, rfl, m, _, rfl, hm1.mono e4, fun pl H5 e5 hpl => ?_⟩
    (repeat (first | refine ⟨rfl, ?_⟩ | refine ⟨_, rfl, ?_⟩ | refine ⟨_, _, rfl, rfl, ?_⟩ | refine ⟨_, _, rfl, ?_⟩ | refine ⟨slen rfl, ?_⟩ | refine ⟨⟨by decide, by decide +kernel⟩, ?_⟩ | refine ⟨⟨by decide, by decide, by decide⟩, ?_⟩ | refine ⟨(by show (0 : Int) < _; first | decide | assumption | omega), ?_⟩ | refine ⟨mul_ok (by first | exact .inr (by decide) | exact .inl (by decide)), ?_⟩))
    (intro tp ntp; generalize hGtp : upd _ tp _ = H6; have eH6 := exG hGtp ntp; have htp := atG hGtp; clear hGtp)
    have E6 : Ex H3 H6 := ext e4 (ext e5 eH6)
    have hp6 := E6 _ _ hp3
    refine ⟨tp, _, rfl, SqT.of htp, rfl, ?_⟩
    refine ⟨_, _, rfl, _, rfl, p, T.C_Record, dx, [], rfl, hp6, T.cl_Record, T.n_Record_table, (by decide), ?_⟩
    refine ⟨_, _, rfl, _, rfl, p, T.C_Record, dx, _, rfl, upd_same, T.cl_Record, T.n_Record_goals, (by show 1 < 1000; decide), ?_⟩
    refine ⟨_, _, rfl, _, rfl, p, T.C_Record, dx, _, rfl, upd_same, T.cl_Record, T.n_Record_played, (by show 2 < 1000; decide), ?_⟩
    refine ⟨rfl, ?_⟩
    generalize hG7 : upd (upd (upd H6 p _) p _) p _ = H7
    have hp7 : H7 p = some (.ins T.C_Record dx [("table", .ref a), ("goals", .ref g), ("played", .ref pl)]) := by rw [← hG7]; exact upd_same
    have X7 : ∀ c o, c ≠ p → H6 c = some o → H7 c = some o := fun c o n z => by rw [← hG7, upd_ne n, upd_ne n, upd_ne n]; exact z
    clear hG7
    have E7 : Ex H0 H7 := fun c o z => X7 c o (ne_of_none z np) (E6 _ _ (E3 c o z))
    refine ⟨_, rfl, _, rfl, _, rfl, a, s, m, ns, st, ms, rfl, tab.mono E7, ok, E7 _ _ hs, sk, hm.mono E7, lm, hmm, fun f H8 e8 nf ra => ?_⟩
    obtain ⟨vs, hv1, hv2⟩ := ra
    refine ⟨f, _, rfl, .inl ⟨SqL.of hv1, ?_⟩⟩
    (intro vt nvt; generalize hGvt : upd _ vt _ = H9; have eH9 := exG hGvt nvt; have hvt := atG hGvt; clear hGvt)
    have E9 : Ex H7 H9 := ext e8 eH9
    refine ⟨_, rfl, p, T.C_Record, dx, _, rfl, E9 _ _ hp7, T.cl_Record, T.n_Record_visited, (by show 3 < 1000; decide), ?_⟩
    generalize hGa : upd H9 p _ = Ha
    have hpa : Ha p = some (.ins T.C_Record dx [("table", .ref a), ("goals", .ref g), ("played", .ref pl), ("visited", .ref vt)]) := by rw [← hGa]; exact upd_same
    have Xa : ∀ c o, c ≠ p → H9 c = some o → Ha c = some o := fun c o n z => by rw [← hGa, upd_ne n]; exact z
    clear hGa
    have Ea : Ex H0 Ha := fun c o z => Xa c o (ne_of_none z np) (E9 _ _ (E7 c o z))
    have T3 : ∀ c o, o ≠ .ins T.C_Record dx [] → H6 c = some o → Ha c = some o := fun c o n z => by
      have : c ≠ p := ne_of z hp6 n
      exact Xa c o this (E9 _ _ (X7 c o this z))
    have T9 : ∀ c o, (∀ fs, o ≠ .ins T.C_Record dx fs) → H9 c = some o → Ha c = some o := fun c o n z => Xa c o (ne_of z (E9 _ _ hp7) (n _)) z
    refine k _ Ea ⟨dx, a, g, pl, vt, gs, ps, vs, hpa, tab.mono Ea, T3 _ _ (by intro z; cases z) (eH6 _ _ (e5 _ _ hg)), ?_, T3 _ _ (by intro z; cases z) (eH6 _ _ hpl), ?_, T9 _ _ (by intro fs z; cases z) hvt, ?_⟩
    · obtain ⟨xs, hx1, hx2⟩ := hq
      obtain rfl : gs = xs := SqH.uniq hq1 (hx1.mono E3)
      exact hx2.mono Ea
    · obtain ⟨xs, hx1, hx2⟩ := hm
      obtain rfl : ps = xs := SqH.uniq hm1 (hx1.mono E3)
      exact hx2.mono Ea
    · exact (hv2.mono eH9).monoT fun c xs z => T9 _ _ (by intro fs z; cases z) z
def sp_Record_seats (CR C : Addr) : Sp := fun vs H Q _ => ∃ (p : Addr) (ns st : List Int) (tss : List (List Int)) (ms : List (List Int × Bool)), vs = [.ref p] ∧ RecAt CR C H p ns st tss ms ∧ ∀ f H2, Ex H H2 → H f = none → RowsAt H2 f (walkL ns st ms) → Q (.ref f) H2
theorem ok_Record_seats (T : TX K mg) : FnOk P w K mg base CX0 1 T.f_Record_seats T.fd_Record_seats ["self"] (sp_Record_seats T.C_Record T.C_Table) := by
  refine T.F_Record_seats.ok sc_Record_seats (fun vs H Q E h => ?_) (fun cdv A outer s H vs Q E hr h => ?_)
  · obtain ⟨p, ns, st, tss, ms, rfl, _⟩ := h
    rfl
  · obtain ⟨p, ns, st, tss, ms, rfl, ⟨dx, tb, g, pl, v, gs, ps, vs, h1, h2, h3, h4, h5, h6, h7, h8⟩, k⟩ := h
    refine ⟨_, (pss_one (ps_ret (pe_callTy call_list_of (by rfl) T.z_list (by decide +kernel) (pa_cons (pe_fld (pv 0) rfl) pa_nil)))), ?_⟩
    refine ⟨_, rfl, p, T.C_Record, dx, _, _, rfl, h1, T.cl_Record, T.n_Record_visited, rfl, v, _, rfl, .inr (SqT.of h7), fun f hf => ?_⟩
    exact k f _ (exn hf) hf ⟨_, upd_same, h8.mono (exn hf)⟩
end

/-- the places of a list that are in tss -/
def hitsL (hss tss : List (List Int)) : List (List Int × Nat) := hss.zipIdx.filter fun z => decide (z.1 ∈ tss)
/-- the first of them, or None -/
def hitV (hss tss : List (List Int)) : V := (((hitsL hss tss).map fun z => V.int z.2) ++ [V.non]).headD .non
theorem hit_at (hss tss : List (List Int)) : atI (((hitsL hss tss).map fun z => V.int z.2) ++ [V.non]) 0 = some (hitV hss tss) := by
  unfold hitV
  cases (hitsL hss tss).map fun z => V.int (z.2 : Nat) with
  | nil => rfl
  | cons x xs =>
    unfold atI ixN
    rw [if_pos (Int.le_refl 0), if_pos (by rw [List.length_append, List.length_cons]; omega)]
    rfl
theorem hits_len (hss tss : List (List Int)) : (hitsL hss tss).length ≤ hss.length := Nat.le_trans (List.length_filter_le _ _) (by rw [List.length_zipIdx]; exact Nat.le_refl _)
theorem mk_rec {CR C a st p : Addr} {bq bm : Bool} {g : Addr} {H : Hp} {ns ps : List Int} {tss : List (List Int)} {ms : List (List Int × Bool)} {R : Addr → Hp → Prop} {E : XK} (tab : TabAt C H a ns) (ok : SzOk ns) (hq : RowsQ H (bq, g) tss) (ne : tss ≠ []) (lt : tss.length ≤ 100000) (sks : ∀ ts ∈ tss, SeatOk ns ts) (nod : tss.Nodup)
    (hs : H st = some (.tup (ps.map V.int))) (sk : SeatOk ns ps) (hm : MovQ H (bm, p) ms) (lm : ms.length ≤ 100000) (hmm : ∀ m ∈ ms, m.1.length = ns.length) (k : ∀ x H2, Ex H H2 → H x = none → RecAt CR C H2 x ns ps tss ms → R x H2) :
    ∀ x dx, H x = none → H dx = none → dx ≠ x → sp_Record_init CR C [.ref x, .ref a, .ref g, .ref st, .ref p] (upd (upd H dx (.own x)) x (.ins CR dx [])) (fun v H2 => v = .non ∧ R x H2) E := by
  intro x dx nx ndx _
  have exB : Ex H (upd (upd H dx (.own x)) x (.ins CR dx [])) := fun c o z => by
    rw [upd_ne (ne_of_none z nx), upd_ne (ne_of_none z ndx)]
    exact z
  exact ⟨x, dx, a, st, (bq, g), (bm, p), ns, ps, tss, ms, H, rfl, upd_same, nx, exB, tab, ok, hq, ne, lt, sks, nod, hs, sk, hm, lm, hmm, fun H2 e2 ra => ⟨rfl, k x H2 e2 nx ra⟩⟩
section
variable {P : Program} {w : World} {K : PySem.W.Frag} {mg : Str → Option Value} {base : Heap}
def sp_Record_calls_to_target (CR C : Addr) : Sp := fun vs H Q _ => ∃ (p : Addr) (ns st : List Int) (tss : List (List Int)) (ms : List (List Int × Bool)), vs = [.ref p] ∧ RecAt CR C H p ns st tss ms ∧ ms.length ≤ 100000 ∧ ∀ H2, Ex H H2 → Q (hitV (walkL ns st ms) tss) H2
theorem ok_Record_calls_to_target (T : TX K mg) : FnOk P w K mg base CX0 1 T.f_Record_calls_to_target T.fd_Record_calls_to_target ["self"] (sp_Record_calls_to_target T.C_Record T.C_Table) := by
  refine T.F_Record_calls_to_target.ok sc_Record_calls_to_target (fun vs H Q E h => ?_) (fun cdv A outer s H vs Q E hr h => ?_)
  · obtain ⟨p, ns, st, tss, ms, rfl, _⟩ := h
    rfl
  · obtain ⟨p, ns, st, tss, ms, rfl, ⟨dx, tb, g, pl, v, gs, ps, vs, h1, h2, h3, h4, h5, h6, h7, h8⟩, lm, k⟩ := h
    refine ⟨_, (pss_one (ps_ret (pe_ix ix_list (pe_op (r := rCatR K) op_catR (pe_lc (own := [("index", 1), ("seat", 2)]) (g := (gTup K 2 (gCons (gName 1) (gCons (gName 2) gNil)))) rfl sc_Record_calls_to_target.nd (CE.pi_e rfl T.z_enumerate (pa_cons (pe_fld (pv 0) rfl) pa_nil)) (blkOk_by (N := N_Record_calls_to_target) (sc := defScope s_Record_calls_to_target) (by decide +kernel)) (fun _ _ _ _ _ => (pg_tup rfl (pgs_cons (pg_name (i := 1) sc_Record_calls_to_target.nd rfl (Or.inl rfl)) (pgs_cons (pg_name (i := 2) sc_Record_calls_to_target.nd rfl (Or.inl rfl)) pgs_nil)))) (fun _ _ _ _ _ => (pts_one (pt_cmpR (r := rInQ K) (op_inQ (u65 hr)) (pv 2) (pe_fldK K rfl (pv 0) rfl) rfl))) (fun _ _ _ _ _ => (pv 1))) (pe_lst (pa_cons pe_non pa_nil))) pe_int (fun _ _ => rfl)))), ?_⟩
    have lv := h8.len
    have lw := walk_len ns st ms
    refine ⟨_, rfl, p, T.C_Record, dx, _, _, rfl, h1, T.cl_Record, T.n_Record_visited, rfl, (true, v), rfl, ⟨_, sqT h7⟩, fun D hD => ?_⟩
    refine lc_filt (CE.walk_e (xs := vs)) (walkL ns st ms).zipIdx (fun z => decide (z.1 ∈ tss)) (fun z => .int z.2) (by rw [List.length_zipIdx, lv]) (by omega) hD (fun H3 e => sqT (e _ _ h7)) ?_ ?_
    · rintro i x ⟨hs, j⟩ H3 H4 R S ha e3 ⟨Ta, x1, x2, rfl, hT, rfl, hx1, hx2⟩ kR kS
      cases hx1
      obtain ⟨hs2, r, e1, rfl, hr0⟩ := h8.get hx2
      rw [List.getElem?_zipIdx, e1] at ha
      obtain ⟨rfl, rfl⟩ : hs2 = hs ∧ 0 + i = j := by simpa using ha
      have e4 := exn (o := .tup [.int (i : Nat), .ref r]) hT
      have E4 := ext e3 e4
      refine ⟨Ta, _, rfl, SqT.of upd_same, rfl, _, _, rfl, _, _, rfl, rfl, ?_⟩
      refine ⟨rfl, _, rfl, _, rfl, p, T.C_Record, dx, _, _, rfl, E4 _ _ h1, T.cl_Record, T.n_Record_goals, rfl, ?_⟩
      refine ⟨iT hs2, tss.map iT, dp_ints (E4 _ _ hr0), .inr (.tup (SqT.of (E4 _ _ h3)) (h4.mono E4).dp), (sh_ints _).ok, (sh_rows (n := 58) _).ok, _, rfl, ?_⟩
      rw [any_rows]
      refine ite2 (fun hc => ?_) (fun hc => ?_)
      · exact ⟨_, rfl, kR _ _ e4 hc (by show V.int (i : Nat) = V.int ((0 + i : Nat) : Int); rw [Nat.zero_add])⟩
      · exact kS _ e4 (by simpa using hc)
    · intro H3 e3 hD3
      (repeat (first | refine ⟨rfl, ?_⟩ | refine ⟨_, rfl, ?_⟩ | refine ⟨_, _, rfl, rfl, ?_⟩ | refine ⟨_, _, rfl, ?_⟩ | refine ⟨slen rfl, ?_⟩ | refine ⟨⟨by decide, by decide +kernel⟩, ?_⟩ | refine ⟨⟨by decide, by decide, by decide⟩, ?_⟩ | refine ⟨(by show (0 : Int) < _; first | decide | assumption | omega), ?_⟩ | refine ⟨mul_ok (by first | exact .inr (by decide) | exact .inl (by decide)), ?_⟩))
      (intro nl nnl; generalize hGnl : upd _ nl _ = H4; have eH4 := exG hGnl nnl; have hnl := atG hGnl; clear hGnl)
      refine ⟨D, nl, _, _, rfl, rfl, SqL.of (eH4 _ _ hD3), SqL.of hnl, ?_, ?_⟩
      · have := hits_len (walkL ns st ms) tss
        unfold hitsL at this
        rw [List.length_map]
        exact Nat.le_trans (show _ + 1 ≤ 100002 by omega) (by decide)
      · intro c hc
        refine ⟨c, _, _, _, rfl, rfl, SqL.of upd_same, hit_at _ _, ?_⟩
        exact k _ (ext e3 (ext eH4 (exn hc)))
end

theorem MovR.monoT {H H2 : Hp} (e : ∀ c xs, H c = some (.tup xs) → H2 c = some (.tup xs)) : ∀ {xs : List V} {ms : List (List Int × Bool)}, MovR H xs ms → MovR H2 xs ms
  | _, _, .nil => .nil
  | _, _, .cons ⟨r, c, h1, h2, h3⟩ t => .cons ⟨r, c, h1, e _ _ h2, e _ _ h3⟩ (MovR.monoT e t)
theorem MovR.xb {s : Addr} {H H2 : Hp} {xs : List V} {ms : List (List Int × Bool)} (h : MovR H xs ms) (src : Src H s) (xb : XB s H H2) : MovR H2 xs ms := h.monoT fun _ _ z => tup_xb src z xb

section
variable {P : Program} {w : World} {K : PySem.W.Frag} {mg : Str → Option Value} {base : Heap}
def sp_law_one : Sp := fun vs H Q _ => ∃ (s l : Addr) (xs : List V), vs = [.ref s, .ref l] ∧ Src H s ∧ H l = some (.lst xs) ∧ l ≠ s ∧ xs ≠ [] ∧ xs.length ≤ 1000 ∧ ∀ (v : V) H2, v ∈ xs → XB s H H2 → Src H2 s → Q v H2
theorem ok_law_one (T : TX K mg) : FnOk P w K mg base CX0 3 T.f_law_one T.fd_law_one ["_law_source_here", "_law_some"] sp_law_one := by
  refine T.F_law_one.ok sc_law_one (fun vs H Q E h => ?_) (fun cdv A outer s H vs Q E hr h => ?_)
  · obtain ⟨s, l, xs, rfl, _⟩ := h
    rfl
  · obtain ⟨s, l, xs, rfl, hs, hl, nl, ne, lx, k⟩ := h
    refine ⟨_, (pss_one (ps_ret (pe_ix ix_list (pv 1) (pe_call (ok_law_take T) hr rfl T.m_law_take T.F_law_take.kp T.b_law_take .nil pass0 (pa_cons (pv 0) (pa_cons (pe_callB call_len_seq (by rfl) T.z_len (by decide +kernel) (pa_cons (pv 1) pa_nil)) pa_nil))) (fun _ _ => rfl)))), ?_⟩
    have pos := List.length_pos_iff.mpr ne
    refine ⟨_, rfl, _, rfl, _, rfl, l, _, rfl, .inl (SqL.of hl), s, _, rfl, hs, (by omega), ?_, fun r H2 r0 r1 xb src => ?_⟩
    · rw [Int.natAbs_natCast]
      exact Nat.lt_of_le_of_lt lx (by decide +kernel)
    obtain ⟨v, hv, hm⟩ := atI_nat r0 r1
    exact ⟨l, _, _, _, rfl, rfl, SqL.of (xb _ _ nl hl), hv, k v _ hm xb src⟩
def sp_law_rings : Sp := fun vs H Q _ => ∃ (s : Addr) (m : Int), vs = [.ref s, .int m] ∧ Src H s ∧ 3 ≤ m ∧ m ≤ 1000000 ∧ ∀ (t : Addr) (ns : List Int) H2, H t = none → H2 t = some (.tup (ns.map V.int)) → SzOk ns → (∀ n ∈ ns, n ≤ 31) → ns.foldl (fun p n => p * n) 1 ≤ m → XB s H H2 → Src H2 s → Q (.ref t) H2
theorem ok_law_rings (T : TX K mg) : FnOk P w K mg base CX0 4 T.f_law_rings T.fd_law_rings ["_law_source_here", "_law_limit"] sp_law_rings := by
  refine T.F_law_rings.ok sc_law_rings (fun vs H Q E h => ?_) (fun cdv A outer s H vs Q E hr h => ?_)
  · obtain ⟨s, m, rfl, _⟩ := h
    rfl
  · obtain ⟨s, m, rfl, hs, m0, m1, k⟩ := h
    refine ⟨_, (pss_cons (ps_set (i := 2) sc_law_rings.nd rfl (Or.inl rfl) (pe_lst pa_nil)) (pss_cons (ps_set (i := 3) sc_law_rings.nd rfl (Or.inl rfl) pe_int) (pss_cons (ps_for PassesOwn.never rfl (pi_range1 rfl T.z_range (pa_cons (pe_op op_add pe_int (pe_call (ok_law_take T) (hr.mono (by decide)) rfl T.m_law_take T.F_law_take.kp T.b_law_take .nil pass0 (pa_cons (pv 0) (pa_cons pe_int pa_nil)))) pa_nil)) (pg_name (i := 4) sc_law_rings.nd rfl (Or.inl rfl)) (pss_cons (ps_set (i := 5) sc_law_rings.nd rfl (Or.inl rfl) (pe_call (ok_law_one T) hr rfl T.m_law_one T.F_law_one.kp T.b_law_one .nil pass0 (pa_cons (pv 0) (pa_cons (pe_lst (pa_cons pe_int (pa_cons pe_int (pa_cons pe_int (pa_cons pe_int (pa_cons pe_int (pa_cons pe_int (pa_cons pe_int (pa_cons pe_int (pa_cons pe_int (pa_cons pe_int (pa_cons pe_int (pa_cons (pe_op op_add pe_int (pe_call (ok_law_take T) (hr.mono (by decide)) rfl T.m_law_take T.F_law_take.kp T.b_law_take .nil pass0 (pa_cons (pv 0) (pa_cons pe_int pa_nil)))) pa_nil))))))))))))) pa_nil)))) (pss_one (ps_if (pt_cmpR op_le (pe_op op_mulI (pv 3) (pv 5)) (pv 1) (nomark _)) (pss_cons (ps_expr (pe_bm PySem.F.plainAttrs_list PySem.F.slot_list_append PySem.F.type_list_append mt_append (pv 2) (pa_cons (pv 5) pa_nil))) (pss_one (ps_set (i := 3) sc_law_rings.nd rfl (Or.inl rfl) (pe_op op_mulI (pv 3) (pv 5))))) pss_nil)))) (pss_one (ps_ret (pe_callTy call_tuple_of (by rfl) T.z_tuple (by decide +kernel) (pa_cons (pe_op (r := rCatR K) op_catR (pv 2) (pe_op op_rep (pe_lst (pa_cons pe_int pa_nil)) (pe_callTy call_int1 (by rfl) T.z_int (by decide +kernel) (pa_cons (pe_cmpR (r := rEqD K) (op_eqD hr.units) (pv 2) (pe_lst pa_nil) (nomark _)) pa_nil)))) pa_nil))))))), ?_⟩
    (repeat (first | refine ⟨rfl, ?_⟩ | refine ⟨_, rfl, ?_⟩ | refine ⟨_, _, rfl, rfl, ?_⟩ | refine ⟨_, _, rfl, ?_⟩ | refine ⟨slen rfl, ?_⟩ | refine ⟨⟨by decide, by decide +kernel⟩, ?_⟩ | refine ⟨⟨by decide, by decide, by decide⟩, ?_⟩ | refine ⟨(by show (0 : Int) < _; first | decide | assumption | omega), ?_⟩ | refine ⟨mul_ok (by first | exact .inr (by decide) | exact .inl (by decide)), ?_⟩))
    (intro l nl; generalize hGl : upd _ l _ = H1; have eH1 := exG hGl nl; have hl := atG hGl; clear hGl)
    have nls : l ≠ s := hs.ne nl
    (repeat (first | refine ⟨rfl, ?_⟩ | refine ⟨_, rfl, ?_⟩ | refine ⟨_, _, rfl, rfl, ?_⟩ | refine ⟨_, _, rfl, ?_⟩ | refine ⟨slen rfl, ?_⟩ | refine ⟨⟨by decide, by decide +kernel⟩, ?_⟩ | refine ⟨⟨by decide, by decide, by decide⟩, ?_⟩ | refine ⟨(by show (0 : Int) < _; first | decide | assumption | omega), ?_⟩ | refine ⟨mul_ok (by first | exact .inr (by decide) | exact .inl (by decide)), ?_⟩))
    refine ⟨hs.mono eH1, by decide, by decide +kernel, fun r H2 r0 r1 xb2 src2 => ?_⟩
    (repeat (first | refine ⟨rfl, ?_⟩ | refine ⟨_, rfl, ?_⟩ | refine ⟨_, _, rfl, rfl, ?_⟩ | refine ⟨_, _, rfl, ?_⟩ | refine ⟨slen rfl, ?_⟩ | refine ⟨⟨by decide, by decide +kernel⟩, ?_⟩ | refine ⟨⟨by decide, by decide, by decide⟩, ?_⟩ | refine ⟨(by show (0 : Int) < _; first | decide | assumption | omega), ?_⟩ | refine ⟨mul_ok (by first | exact .inr (by decide) | exact .inl (by decide)), ?_⟩))
    refine ⟨by omega, by omega, ?_⟩
    have hl2 := xb2 _ _ nls hl
    have xbH : XB s H H2 := (XB.of eH1).trans xb2
    refine for_it walk_range (fun i σ H3 => ∃ (y4 y5 : Option V) (ns : List Int), σ = [some (.ref s), some (.int m), some (.ref l), some (.int (ns.foldl (fun p n => p * n) 1)), y4, y5] ∧ H3 l = some (.lst (ns.map V.int)) ∧ ns.length ≤ i ∧ (∀ n ∈ ns, 1 ≤ n ∧ n ≤ 31) ∧ 1 ≤ ns.foldl (fun p n => p * n) 1 ∧ ns.foldl (fun p n => p * n) 1 ≤ m ∧ XB s H H3 ∧ Src H3 s) ⟨none, none, [], rfl, hl2, Nat.le_refl _, by simp, by decide, by show (1 : Int) ≤ m; omega, xbH, src2⟩ (fun _ _ _ _ _ => True.intro) ?_ ?_
    · rintro i x σ _ H3 hi ⟨y4, y5, ns, rfl, hl3, ln, hn, t1, t2, xb3, src3⟩ ⟨rfl, hx⟩
      obtain rfl : x = .int (i : Int) := hx.trans (congrArg V.int (Int.zero_add _))
      (repeat (first | refine ⟨rfl, ?_⟩ | refine ⟨_, rfl, ?_⟩ | refine ⟨_, _, rfl, rfl, ?_⟩ | refine ⟨_, _, rfl, ?_⟩ | refine ⟨slen rfl, ?_⟩ | refine ⟨⟨by decide, by decide +kernel⟩, ?_⟩ | refine ⟨⟨by decide, by decide, by decide⟩, ?_⟩ | refine ⟨(by show (0 : Int) < _; first | decide | assumption | omega), ?_⟩ | refine ⟨mul_ok (by first | exact .inr (by decide) | exact .inl (by decide)), ?_⟩))
      refine ⟨src3, by decide, by decide +kernel, fun r5 H5 r50 r51 xb5 src5 => ?_⟩
      (repeat (first | refine ⟨rfl, ?_⟩ | refine ⟨_, rfl, ?_⟩ | refine ⟨_, _, rfl, rfl, ?_⟩ | refine ⟨_, _, rfl, ?_⟩ | refine ⟨slen rfl, ?_⟩ | refine ⟨⟨by decide, by decide +kernel⟩, ?_⟩ | refine ⟨⟨by decide, by decide, by decide⟩, ?_⟩ | refine ⟨(by show (0 : Int) < _; first | decide | assumption | omega), ?_⟩ | refine ⟨mul_ok (by first | exact .inr (by decide) | exact .inl (by decide)), ?_⟩))
      (intro al nal; generalize hGal : upd _ al _ = H6; have eH6 := exG hGal nal; have hal := atG hGal; clear hGal)
      have nals : al ≠ s := src5.ne nal
      have hl5 := xb5 _ _ nls hl3
      refine ⟨s, al, _, rfl, src5.mono eH6, hal, nals, by simp, (by show 12 ≤ 1000; decide), fun v H7 hv xb7 src7 => ?_⟩
      obtain ⟨z, rfl, z1, z2⟩ : ∃ z : Int, v = .int z ∧ 1 ≤ z ∧ z ≤ 31 := by
        simp only [List.mem_cons, List.not_mem_nil, or_false] at hv
        rcases hv with rfl | rfl | rfl | rfl | rfl | rfl | rfl | rfl | rfl | rfl | rfl | rfl
        all_goals exact ⟨_, rfl, by omega, by omega⟩
      have hl7 := xb7 _ _ nls (eH6 _ _ hl5)
      have XB7 : XB s H H7 := (xb3.trans xb5).trans ((XB.of eH6).trans xb7)
      have mok : IntMulOk (ns.foldl (fun p n => p * n) 1) z := mul_ok (.inl (by omega))
      refine ⟨_, rfl, _, rfl, _, _, rfl, rfl, mok, _, rfl, _, _, rfl, rfl, _, rfl, ?_⟩
      refine ite2 (fun hc => ?_) (fun hc => ?_)
      · have hc2 := of_decide_eq_true hc
        refine ⟨_, rfl, .inl ⟨rfl, _, SqL.of hl7⟩, _, rfl, l, _, _, rfl, rfl, hl7, ?_, ?_⟩
        · rw [List.length_map]
          have : i < (1 + r).toNat := hi
          exact Nat.lt_of_le_of_lt (show ns.length ≤ 4 by omega) (by decide)
        refine ⟨_, rfl, _, rfl, _, _, rfl, rfl, mok, ?_⟩
        refine ⟨some (.int (i : Int)), some (.int z), ns ++ [z], ?_, ?_, ?_, ?_, ?_, ?_, XB7.app nl, src7.app nls⟩
        · rw [← prodL_snoc]
          rfl
        · rw [upd_same, List.map_append]
          rfl
        · rw [List.length_append]
          show _ + 1 ≤ _
          omega
        · intro n hn2
          rcases List.mem_append.mp hn2 with h | h
          · exact hn n h
          · rw [List.mem_singleton.mp h]
            exact ⟨z1, z2⟩
        · rw [← prodL_snoc]
          exact Int.le_trans z1 (by have := Int.mul_le_mul_of_nonneg_right t1 (show 0 ≤ z by omega); omega)
        · rw [← prodL_snoc]
          exact hc2
      · exact ⟨_, _, ns, rfl, hl7, by omega, hn, t1, t2, XB7, src7⟩
    · rintro σ H3 ⟨y4, y5, ns, rfl, hl3, ln, hn, t1, t2, xb3, src3⟩
      have ln4 : ns.length ≤ 4 := by
        have : ns.length ≤ (1 + r).toNat := ln
        omega
      (repeat (first | refine ⟨rfl, ?_⟩ | refine ⟨_, rfl, ?_⟩ | refine ⟨_, _, rfl, rfl, ?_⟩ | refine ⟨_, _, rfl, ?_⟩ | refine ⟨slen rfl, ?_⟩ | refine ⟨⟨by decide, by decide +kernel⟩, ?_⟩ | refine ⟨⟨by decide, by decide, by decide⟩, ?_⟩ | refine ⟨(by show (0 : Int) < _; first | decide | assumption | omega), ?_⟩ | refine ⟨mul_ok (by first | exact .inr (by decide) | exact .inl (by decide)), ?_⟩))
      (intro b3 nb3; generalize hGb3 : upd _ b3 _ = H4; have eH4 := exG hGb3 nb3; have hb3 := atG hGb3; clear hGb3)
      have nb3 : b3 ≠ s := src3.ne nb3
      (repeat (first | refine ⟨rfl, ?_⟩ | refine ⟨_, rfl, ?_⟩ | refine ⟨_, _, rfl, rfl, ?_⟩ | refine ⟨_, _, rfl, ?_⟩ | refine ⟨slen rfl, ?_⟩ | refine ⟨⟨by decide, by decide +kernel⟩, ?_⟩ | refine ⟨⟨by decide, by decide, by decide⟩, ?_⟩ | refine ⟨(by show (0 : Int) < _; first | decide | assumption | omega), ?_⟩ | refine ⟨mul_ok (by first | exact .inr (by decide) | exact .inl (by decide)), ?_⟩))
      (intro b0 nb0; generalize hGb0 : upd _ b0 _ = H5; have eH5 := exG hGb0 nb0; have hb0 := atG hGb0; clear hGb0)
      have hl5 := eH5 _ _ (eH4 _ _ hl3)
      refine ⟨iL ns, iL [], dp_ilist hl5, dp_ilist hb0, (sh_ilist _).ok, (sh_ilist _).ok, ?_⟩
      rw [eqv_ilist]
      refine .inr ⟨_, rfl, ?_⟩
      have XB5 : XB s H H5 := xb3.trans (XB.of (ext eH4 eH5))
      have src5 := src3.mono (ext eH4 eH5)
      obtain ⟨kk, zs, hk0, hk1, hk2, hz, hok, hle, hpr⟩ : ∃ (kk : Int) (zs : List Int), (if decide (ns = []) = true then (1 : Int) else 0) = kk ∧ 0 ≤ kk ∧ kk ≤ 1 ∧ (List.replicate kk.toNat [V.int 3]).flatten = zs.map V.int ∧ SzOk (ns ++ zs) ∧ (∀ n ∈ ns ++ zs, n ≤ 31) ∧ (ns ++ zs).foldl (fun p n => p * n) 1 ≤ m := by
        by_cases hns : ns = []
        · subst hns
          exact ⟨1, [3], rfl, by decide, by decide, rfl, ⟨by decide, by decide, by decide⟩, by decide, m0⟩
        · refine ⟨0, [], by simp [hns], by decide, by decide, rfl, ⟨by simpa using hns, by simpa using ln4, fun n h => (hn n (by simpa using h)).1⟩, fun n h => (hn n (by simpa using h)).2, by rw [List.append_nil]; exact t2⟩
      rw [hk0]
      refine ⟨b3, kk, _, rfl, rfl, eH5 _ _ hb3, by omega, by omega, ?_, ?_⟩
      · show 1 * kk.toNat ≤ sizeLine
        exact Nat.le_trans (show _ ≤ 1 by omega) (by decide)
      rw [hz]
      (intro b4 nb4; generalize hGb4 : upd _ b4 _ = H6; have eH6 := exG hGb4 nb4; have hb4 := atG hGb4; clear hGb4)
      refine ⟨l, b4, _, _, rfl, rfl, SqL.of (eH6 _ _ hl5), SqL.of hb4, ?_, ?_⟩
      · have := hok.le
        rw [List.length_append] at this
        rw [List.length_map, List.length_map]
        exact Nat.le_trans this (by decide)
      rw [← List.map_append]
      (intro b5 nb5; generalize hGb5 : upd _ b5 _ = H7; have eH7 := exG hGb5 nb5; have hb5 := atG hGb5; clear hGb5)
      refine ⟨b5, _, rfl, .inl ⟨SqL.of hb5, fun t ht => ?_⟩⟩
      have e7 : Ex H5 H7 := ext eH6 eH7
      have XB7 := XB5.trans (XB.of e7)
      have src7 := src5.mono e7
      exact k t _ _ (XB7.back (src7.ne ht) ht) upd_same hok hle hpr (XB7.trans (XB.of (exn ht))) (src7.new ht)
end

section
variable {P : Program} {w : World} {K : PySem.W.Frag} {mg : Str → Option Value} {base : Heap}
def sp_law_seat : Sp := fun vs H Q _ => ∃ (s l : Addr) (ns : List Int), vs = [.ref s, .ref l] ∧ Src H s ∧ H l = some (.tup (ns.map V.int)) ∧ SzOk ns ∧ (∀ n ∈ ns, n ≤ 10 ^ 30) ∧
  ∀ (q : Addr) (ps : List Int) H2, H q = none → H2 q = some (.tup (ps.map V.int)) → SeatOk ns ps → XB s H H2 → Src H2 s → Q (.ref q) H2
theorem ok_law_seat (T : TX K mg) : FnOk P w K mg base CX0 3 T.f_law_seat T.fd_law_seat ["_law_source_here", "_law_rings_here"] sp_law_seat := by
  refine T.F_law_seat.ok sc_law_seat (fun vs H Q E h => ?_) (fun cdv A outer s H vs Q E hr h => ?_)
  · obtain ⟨s, l, ns, rfl, _⟩ := h
    rfl
  · obtain ⟨s, l, ns, rfl, hs, hl, ok, hB, k⟩ := h
    refine ⟨_, (pss_one (ps_ret (pe_callTy call_tuple_of (by rfl) T.z_tuple (by decide +kernel) (pa_cons (pe_lc (own := [("_law_size", 2)]) (g := (gName 2)) rfl sc_law_seat.nd (pi_tup (pv 1)) (blkOk_by (N := N_law_seat) (sc := defScope s_law_seat) (by decide +kernel)) (fun _ _ _ _ _ => (pg_name (i := 2) sc_law_seat.nd rfl (Or.inl rfl))) (fun _ _ _ _ _ => pts_nil) (fun _ _ _ _ _ => (pe_call (ok_law_take T) hr rfl T.m_law_take T.F_law_take.kp T.b_law_take .nil pass0 (pa_cons (pv 0) (pa_cons (pv 2) pa_nil))))) pa_nil)))), ?_⟩
    refine ⟨_, rfl, l, rfl, ⟨_, SqT.of hl⟩, fun D hD => ?_⟩
    have nD : D ≠ s := hs.ne hD
    refine lc_it (walk_tup (xs := ns.map V.int)) (fun i H2 => ∃ ps : List Int, H2 D = some (.lst (ps.map V.int)) ∧ SeatOk (ns.take i) ps ∧ XB s H H2 ∧ Src H2 s) ⟨[], upd_same, True.intro, XB.of (exn hD), hs.new hD⟩ (fun i H2 _ ⟨ps, _, _, xb, _⟩ => SqT.of (tup_xb hs hl xb)) ?_ ?_
    · rintro i x H2 H3 hi ⟨ps, hD2, sk, xb, src⟩ ⟨rfl, hx⟩
      obtain ⟨n, hn, rfl⟩ := map_get hx
      have n1 := ok.one n (List.mem_of_getElem? hn)
      have n2 := hB n (List.mem_of_getElem? hn)
      refine ⟨rfl, _, rfl, _, rfl, s, n, rfl, src, by omega, ?_, fun r H4 r0 r1 xb4 src4 => ?_⟩
      · exact Nat.lt_of_lt_of_le (abs30 n1 n2) (Nat.pow_le_pow_right (by decide) (by decide))
      refine ⟨ps.map V.int, xb4 _ _ nD hD2, ?_, ps ++ [r], ?_, ?_, (xb.trans xb4).app hD, src4.app nD⟩
      · have hl4 := ok.le
        have := sk.len
        rw [List.length_take] at this
        rw [List.length_map]
        exact Nat.lt_of_le_of_lt (show ps.length ≤ 4 by omega) (by decide)
      · rw [upd_same, List.map_append]
        rfl
      · rw [take_more hn]
        exact sk.snoc r0 r1
    · rintro H2 ⟨ps, hD2, sk, xb, src⟩
      refine ⟨D, _, rfl, .inl ⟨SqL.of hD2, fun q hq => ?_⟩⟩
      rw [List.length_map, List.take_length] at sk
      have nq := src.ne hq
      exact k q ps _ (xb.back nq hq) upd_same sk (xb.trans (XB.of (exn hq))) (src.new hq)
def sp_law_seats : Sp := fun vs H Q _ => ∃ (s l : Addr) (ns : List Int) (m : Int), vs = [.ref s, .ref l, .int m] ∧ Src H s ∧ H l = some (.tup (ns.map V.int)) ∧ SzOk ns ∧ (∀ n ∈ ns, n ≤ 10 ^ 30) ∧ 1 ≤ m ∧ m ≤ 1000 ∧
  ∀ (f : Addr) (tss : List (List Int)) H2, H f = none → RowsAt H2 f tss → tss ≠ [] → tss.length ≤ m.toNat → (∀ ts ∈ tss, SeatOk ns ts) → tss.Nodup → XB s H H2 → Src H2 s → Q (.ref f) H2
theorem ok_law_seats (T : TX K mg) : FnOk P w K mg base CX0 4 T.f_law_seats T.fd_law_seats ["_law_source_here", "_law_rings_here", "_law_most"] sp_law_seats := by
  refine T.F_law_seats.ok sc_law_seats (fun vs H Q E h => ?_) (fun cdv A outer s H vs Q E hr h => ?_)
  · obtain ⟨s, l, ns, m, rfl, _⟩ := h
    rfl
  · obtain ⟨s, l, ns, m, rfl, hs, hl, ok, hB, m1, m2, k⟩ := h
    refine ⟨_, (pss_cons (ps_set (i := 3) sc_law_seats.nd rfl (Or.inl rfl) (pe_lst pa_nil)) (pss_cons (ps_for PassesOwn.never rfl (pi_range1 rfl T.z_range (pa_cons (pe_op op_add pe_int (pe_call (ok_law_take T) (hr.mono (by decide)) rfl T.m_law_take T.F_law_take.kp T.b_law_take .nil pass0 (pa_cons (pv 0) (pa_cons (pv 2) pa_nil)))) pa_nil)) (pg_name (i := 4) sc_law_seats.nd rfl (Or.inl rfl)) (pss_cons (ps_set (i := 5) sc_law_seats.nd rfl (Or.inl rfl) (pe_call (ok_law_seat T) hr rfl T.m_law_seat T.F_law_seat.kp T.b_law_seat .nil pass0 (pa_cons (pv 0) (pa_cons (pv 1) pa_nil)))) (pss_one (ps_if (pt_cmpR (r := rNotInD K) (op_notInD (u65 hr)) (pv 5) (pv 3) rfl) (pss_one (ps_expr (pe_bm PySem.F.plainAttrs_list PySem.F.slot_list_append PySem.F.type_list_append mt_append (pv 3) (pa_cons (pv 5) pa_nil)))) pss_nil)))) (pss_one (ps_ret (pv 3))))), ?_⟩
    (repeat (first | refine ⟨rfl, ?_⟩ | refine ⟨_, rfl, ?_⟩ | refine ⟨_, _, rfl, rfl, ?_⟩ | refine ⟨_, _, rfl, ?_⟩ | refine ⟨slen rfl, ?_⟩ | refine ⟨⟨by decide, by decide +kernel⟩, ?_⟩ | refine ⟨⟨by decide, by decide, by decide⟩, ?_⟩ | refine ⟨(by show (0 : Int) < _; first | decide | assumption | omega), ?_⟩ | refine ⟨mul_ok (by first | exact .inr (by decide) | exact .inl (by decide)), ?_⟩))
    (intro f nf; generalize hGf : upd _ f _ = H1; have eH1 := exG hGf nf; have hf := atG hGf; clear hGf)
    have nfs : f ≠ s := hs.ne nf
    refine ⟨_, rfl, _, rfl, s, m, rfl, hs.mono eH1, by omega, ?_, fun r H2 r0 r1 xb2 src2 => ?_⟩
    · exact Nat.lt_of_le_of_lt (show m.natAbs ≤ 1000 by omega) (by decide +kernel)
    (repeat (first | refine ⟨rfl, ?_⟩ | refine ⟨_, rfl, ?_⟩ | refine ⟨_, _, rfl, rfl, ?_⟩ | refine ⟨_, _, rfl, ?_⟩ | refine ⟨slen rfl, ?_⟩ | refine ⟨⟨by decide, by decide +kernel⟩, ?_⟩ | refine ⟨⟨by decide, by decide, by decide⟩, ?_⟩ | refine ⟨(by show (0 : Int) < _; first | decide | assumption | omega), ?_⟩ | refine ⟨mul_ok (by first | exact .inr (by decide) | exact .inl (by decide)), ?_⟩))
    refine ⟨by omega, by omega, ?_⟩
    refine for_it walk_range (fun i σ H3 => ∃ (y4 y5 : Option V) (tss : List (List Int)), σ = [some (.ref s), some (.ref l), some (.int m), some (.ref f), y4, y5] ∧ RowsAt H3 f tss ∧ (1 ≤ i → tss ≠ []) ∧ tss.length ≤ i ∧ (∀ ts ∈ tss, SeatOk ns ts) ∧ tss.Nodup ∧ XB s H H3 ∧ Src H3 s) ⟨none, none, [], rfl, ⟨_, xb2 _ _ nfs hf, .nil⟩, fun h => absurd h (by decide), Nat.le_refl _, by simp, List.nodup_nil, (XB.of eH1).trans xb2, src2⟩ (fun _ _ _ _ _ => True.intro) ?_ ?_
    · rintro i x σ _ H3 hi ⟨y4, y5, tss, rfl, ra, hne, lt, sks, nod, xb3, src3⟩ ⟨rfl, hx⟩
      refine ⟨_, rfl, _, rfl, s, l, ns, rfl, src3, tup_xb hs hl xb3, ok, hB, fun q ps H4 nq hq sk xb4 src4 => ?_⟩
      have ra4 : RowsAt H4 f tss := ra.xb nfs src3 xb4
      refine ⟨_, rfl, _, rfl, iT ps, tss.map iT, dp_ints hq, ra4.dp, (sh_ints _).ok, (sh_rows (n := 58) _).ok, _, rfl, ?_⟩
      rw [any_rows]
      have hi2 : i < (1 + r).toNat := hi
      by_cases hm : ps ∈ tss
      · refine itf (by simp [hm]) ?_
        exact ⟨_, _, tss, rfl, ra4, (fun _ z => by rw [z] at hm; cases hm), by omega, sks, nod, xb3.trans xb4, src4⟩
      · refine itt (by simp [hm]) ?_
        obtain ⟨acc, p1, p2, p3⟩ := rows_push ra4 hq
        refine ⟨_, rfl, .inl ⟨rfl, _, SqL.of p1⟩, _, rfl, f, _, _, rfl, rfl, p1, ?_, ?_⟩
        · rw [p2]
          exact Nat.lt_of_le_of_lt (show tss.length ≤ 1000 by omega) (by decide)
        refine ⟨_, _, tss ++ [ps], rfl, p3, fun _ z => by simp at z, by rw [List.length_append]; show _ + 1 ≤ _; omega, fun ts h => ?_, ?_, (xb3.trans xb4).app nf, src4.app nfs⟩
        · rcases List.mem_append.mp h with h | h
          · exact sks ts h
          · rw [List.mem_singleton.mp h]
            exact sk
        · rw [List.nodup_append]
          exact ⟨nod, by simp, fun a ha b hb z => hm (by rw [← List.mem_singleton.mp hb, ← z]; exact ha)⟩
    · rintro σ H3 ⟨y4, y5, tss, rfl, ra, hne, lt, sks, nod, xb3, src3⟩
      have e1 : (1 : Nat) ≤ (1 + r).toNat := by omega
      have lt2 : tss.length ≤ (1 + r).toNat := lt
      exact ⟨_, rfl, k f tss _ nf ra (hne e1) (by omega) sks nod xb3 src3⟩
def sp_law_call : Sp := fun vs H Q _ => ∃ (s l : Addr) (ns : List Int), vs = [.ref s, .ref l] ∧ Src H s ∧ H l = some (.tup (ns.map V.int)) ∧ SzOk ns ∧ (∀ n ∈ ns, n ≤ 10 ^ 30) ∧
  ∀ (q : Addr) (cs : List Int) H2, H q = none → H2 q = some (.tup (cs.map V.int)) → cs.length = ns.length → XB s H H2 → Src H2 s → Q (.ref q) H2
theorem ok_law_call (T : TX K mg) : FnOk P w K mg base CX0 4 T.f_law_call T.fd_law_call ["_law_source_here", "_law_rings_here"] sp_law_call := by
  refine T.F_law_call.ok sc_law_call (fun vs H Q E h => ?_) (fun cdv A outer s H vs Q E hr h => ?_)
  · obtain ⟨s, l, ns, rfl, _⟩ := h
    rfl
  · obtain ⟨s, l, ns, rfl, hs, hl, ok, hB, k⟩ := h
    refine ⟨_, (pss_cons (ps_set (i := 2) sc_law_call.nd rfl (Or.inr rfl) (pe_call (ok_law_one T) hr rfl T.m_law_one T.F_law_one.kp T.b_law_one .nil pass0 (pa_cons (pv 0) (pa_cons (pe_lst (pa_cons pe_int (pa_cons pe_int (pa_cons pe_int (pa_cons pe_int (pa_cons (pe_un un_neg pe_int) (pa_cons (pe_op op_pow pe_int pe_int) pa_nil))))))) pa_nil)))) (pss_one (ps_ret (pe_callTy call_tuple_of (by rfl) T.z_tuple (by decide +kernel) (pa_cons (pe_lc (own := [("_law_size", 3)]) (g := (gName 3)) rfl sc_law_call.nd (pi_tup (pv 1)) (blkOk_by (N := N_law_call) (sc := defScope s_law_call) (by decide +kernel)) (fun _ _ _ _ _ => (pg_name (i := 3) sc_law_call.nd rfl (Or.inl rfl))) (fun _ _ _ _ _ => pts_nil) (fun _ _ _ _ _ => (pe_op op_add (pe_call (ok_law_take T) (hr.mono (by decide)) rfl T.m_law_take T.F_law_take.kp T.b_law_take .nil pass0 (pa_cons (pv 0) (pa_cons (pv 3) pa_nil))) (pe_op op_mulI (pv 2) (pv 3))))) pa_nil))))), ?_⟩
    (repeat (first | refine ⟨rfl, ?_⟩ | refine ⟨_, rfl, ?_⟩ | refine ⟨_, _, rfl, rfl, ?_⟩ | refine ⟨_, _, rfl, ?_⟩ | refine ⟨slen rfl, ?_⟩ | refine ⟨⟨by decide, by decide +kernel⟩, ?_⟩ | refine ⟨⟨by decide, by decide, by decide⟩, ?_⟩ | refine ⟨(by show (0 : Int) < _; first | decide | assumption | omega), ?_⟩ | refine ⟨mul_ok (by first | exact .inr (by decide) | exact .inl (by decide)), ?_⟩))
    (intro al nal; generalize hGal : upd _ al _ = H0; have eH0 := exG hGal nal; have hal := atG hGal; clear hGal)
    have nals : al ≠ s := hs.ne nal
    refine ⟨s, al, _, rfl, hs.mono eH0, hal, nals, by simp, (by show 6 ≤ 1000; decide), fun v H1 hv xb1 src1 => ?_⟩
    obtain ⟨z, rfl, z2⟩ : ∃ z : Int, v = .int z ∧ z.natAbs < 2 ^ 70 := by
      simp only [List.mem_cons, List.not_mem_nil, or_false] at hv
      rcases hv with rfl | rfl | rfl | rfl | rfl | rfl
      all_goals exact ⟨_, rfl, by decide +kernel⟩
    have xbH : XB s H H1 := (XB.of eH0).trans xb1
    have hl1 := tup_xb hs hl xbH
    refine ⟨_, rfl, l, rfl, ⟨_, SqT.of hl1⟩, fun D hD => ?_⟩
    have nD : D ≠ s := src1.ne hD
    refine lc_it (walk_tup (xs := ns.map V.int)) (fun i H2 => ∃ ps : List Int, H2 D = some (.lst (ps.map V.int)) ∧ ps.length = i ∧ XB s H1 H2 ∧ Src H2 s) ⟨[], upd_same, rfl, XB.of (exn hD), src1.new hD⟩ (fun i H2 _ ⟨ps, _, _, xb, _⟩ => SqT.of (tup_xb src1 hl1 xb)) ?_ ?_
    · rintro i x H2 H3 hi ⟨ps, hD2, lp, xb, src⟩ ⟨rfl, hx⟩
      obtain ⟨n, hn, rfl⟩ := map_get hx
      have n1 := ok.one n (List.mem_of_getElem? hn)
      have n2 := hB n (List.mem_of_getElem? hn)
      have hl4 := ok.le
      refine ⟨rfl, _, rfl, _, rfl, s, n, rfl, src, by omega, ?_, fun r H4 r0 r1 xb4 src4 => ?_⟩
      · exact Nat.lt_of_lt_of_le (abs30 n1 n2) (Nat.pow_le_pow_right (by decide) (by decide))
      refine ⟨_, rfl, _, rfl, _, _, rfl, rfl, (wide_mul z2 (abs30 n1 n2) (by decide) (by decide) (by decide)).ok, _, _, rfl, rfl, ?_⟩
      refine ⟨ps.map V.int, xb4 _ _ nD hD2, ?_, ps ++ [r + z * n], ?_, ?_, (xb.trans xb4).app hD, src4.app nD⟩
      · rw [List.length_map] at hi ⊢
        exact Nat.lt_of_le_of_lt (show ps.length ≤ 4 by omega) (by decide)
      · rw [upd_same, List.map_append]
        rfl
      · rw [List.length_append, lp]
        rfl
    · rintro H2 ⟨ps, hD2, lp, xb, src⟩
      refine ⟨D, _, rfl, .inl ⟨SqL.of hD2, fun q hq => ?_⟩⟩
      rw [List.length_map] at lp
      have nq := src.ne hq
      have XB2 := xbH.trans xb
      exact k q ps _ (XB2.back nq hq) upd_same lp (XB2.trans (XB.of (exn hq))) (src.new hq)
def sp_law_moves : Sp := fun vs H Q _ => ∃ (s l : Addr) (ns : List Int) (m : Int), vs = [.ref s, .ref l, .int m] ∧ Src H s ∧ H l = some (.tup (ns.map V.int)) ∧ SzOk ns ∧ (∀ n ∈ ns, n ≤ 10 ^ 30) ∧ 0 ≤ m ∧ m ≤ 1000 ∧
  ∀ (f : Addr) (ms : List (List Int × Bool)) H2, H f = none → (∃ xs, H2 f = some (.lst xs) ∧ MovR H2 xs ms) → ms.length ≤ m.toNat → (∀ m ∈ ms, m.1.length = ns.length) → XB s H H2 → Src H2 s → Q (.ref f) H2
theorem ok_law_moves (T : TX K mg) : FnOk P w K mg base CX0 5 T.f_law_moves T.fd_law_moves ["_law_source_here", "_law_rings_here", "_law_most"] sp_law_moves := by
  refine T.F_law_moves.ok sc_law_moves (fun vs H Q E h => ?_) (fun cdv A outer s H vs Q E hr h => ?_)
  · obtain ⟨s, l, ns, m, rfl, _⟩ := h
    rfl
  · obtain ⟨s, l, ns, m, rfl, hs, hl, ok, hB, m1, m2, k⟩ := h
    refine ⟨_, (pss_cons (ps_set (i := 3) sc_law_moves.nd rfl (Or.inl rfl) (pe_lst pa_nil)) (pss_cons (ps_for PassesOwn.never rfl (pi_range1 rfl T.z_range (pa_cons (pe_call (ok_law_take T) (hr.mono (by decide)) rfl T.m_law_take T.F_law_take.kp T.b_law_take .nil pass0 (pa_cons (pv 0) (pa_cons (pe_op op_add (pv 2) pe_int) pa_nil))) pa_nil)) (pg_name (i := 4) sc_law_moves.nd rfl (Or.inl rfl)) (pss_one (ps_expr (pe_bm PySem.F.plainAttrs_list PySem.F.slot_list_append PySem.F.type_list_append mt_append (pv 3) (pa_cons (pe_tup (pa_cons (pe_call (ok_law_call T) hr rfl T.m_law_call T.F_law_call.kp T.b_law_call .nil pass0 (pa_cons (pv 0) (pa_cons (pv 1) pa_nil))) (pa_cons (pe_ix ix_list (pe_lst (pa_cons pe_str (pa_cons pe_str pa_nil))) (pe_call (ok_law_take T) (hr.mono (by decide)) rfl T.m_law_take T.F_law_take.kp T.b_law_take .nil pass0 (pa_cons (pv 0) (pa_cons pe_int pa_nil))) (fun _ _ => rfl)) pa_nil))) pa_nil))))) (pss_one (ps_ret (pv 3))))), ?_⟩
    (repeat (first | refine ⟨rfl, ?_⟩ | refine ⟨_, rfl, ?_⟩ | refine ⟨_, _, rfl, rfl, ?_⟩ | refine ⟨_, _, rfl, ?_⟩ | refine ⟨slen rfl, ?_⟩ | refine ⟨⟨by decide, by decide +kernel⟩, ?_⟩ | refine ⟨⟨by decide, by decide, by decide⟩, ?_⟩ | refine ⟨(by show (0 : Int) < _; first | decide | assumption | omega), ?_⟩ | refine ⟨mul_ok (by first | exact .inr (by decide) | exact .inl (by decide)), ?_⟩))
    (intro f nf; generalize hGf : upd _ f _ = H1; have eH1 := exG hGf nf; have hf := atG hGf; clear hGf)
    have nfs : f ≠ s := hs.ne nf
    refine ⟨_, rfl, _, rfl, _, _, rfl, rfl, s, m + 1, rfl, hs.mono eH1, by omega, ?_, fun r H2 r0 r1 xb2 src2 => ?_⟩
    · exact Nat.lt_of_le_of_lt (show (m + 1).natAbs ≤ 1001 by omega) (by decide +kernel)
    (repeat (first | refine ⟨rfl, ?_⟩ | refine ⟨_, rfl, ?_⟩ | refine ⟨_, _, rfl, rfl, ?_⟩ | refine ⟨_, _, rfl, ?_⟩ | refine ⟨slen rfl, ?_⟩ | refine ⟨⟨by decide, by decide +kernel⟩, ?_⟩ | refine ⟨⟨by decide, by decide, by decide⟩, ?_⟩ | refine ⟨(by show (0 : Int) < _; first | decide | assumption | omega), ?_⟩ | refine ⟨mul_ok (by first | exact .inr (by decide) | exact .inl (by decide)), ?_⟩))
    refine ⟨by omega, by omega, ?_⟩
    refine for_it walk_range (fun i σ H3 => ∃ (y4 : Option V) (ms : List (List Int × Bool)), σ = [some (.ref s), some (.ref l), some (.int m), some (.ref f), y4] ∧ (∃ xs, H3 f = some (.lst xs) ∧ MovR H3 xs ms) ∧ ms.length = i ∧ (∀ m ∈ ms, m.1.length = ns.length) ∧ XB s H H3 ∧ Src H3 s) ⟨none, [], rfl, ⟨_, xb2 _ _ nfs hf, .nil⟩, rfl, by simp, (XB.of eH1).trans xb2, src2⟩ (fun _ _ _ _ _ => True.intro) ?_ ?_
    · rintro i x σ _ H3 hi ⟨y4, ms, rfl, ⟨xs, hx1, hx2⟩, lm, hmm, xb3, src3⟩ ⟨rfl, hx⟩
      refine ⟨_, rfl, .inl ⟨rfl, _, SqL.of hx1⟩, ?_⟩
      refine ⟨_, rfl, _, rfl, s, l, ns, rfl, src3, tup_xb hs hl xb3, ok, hB, fun q cs H4 nq hq lc xb4 src4 => ?_⟩
      (repeat (first | refine ⟨rfl, ?_⟩ | refine ⟨_, rfl, ?_⟩ | refine ⟨_, _, rfl, rfl, ?_⟩ | refine ⟨_, _, rfl, ?_⟩ | refine ⟨slen rfl, ?_⟩ | refine ⟨⟨by decide, by decide +kernel⟩, ?_⟩ | refine ⟨⟨by decide, by decide, by decide⟩, ?_⟩ | refine ⟨(by show (0 : Int) < _; first | decide | assumption | omega), ?_⟩ | refine ⟨mul_ok (by first | exact .inr (by decide) | exact .inl (by decide)), ?_⟩))
      (intro al nal; generalize hGal : upd _ al _ = H5; have eH5 := exG hGal nal; have hal := atG hGal; clear hGal)
      have src5 := src4.mono eH5
      refine ⟨_, rfl, s, 2, rfl, src5, by decide, by decide +kernel, fun r2 H6 r20 r21 xb6 src6 => ?_⟩
      obtain ⟨bk, hbk⟩ : ∃ bk : Bool, atI [V.str "forward", V.str "backward"] r2 = some (.str (dirS bk)) := by
        have : r2 = 0 ∨ r2 = 1 := by omega
        rcases this with rfl | rfl
        · exact ⟨false, rfl⟩
        · exact ⟨true, rfl⟩
      refine ⟨al, _, _, _, rfl, rfl, SqL.of (xb6 _ _ (src4.ne nal) hal), hbk, ?_⟩
      (repeat (first | refine ⟨rfl, ?_⟩ | refine ⟨_, rfl, ?_⟩ | refine ⟨_, _, rfl, rfl, ?_⟩ | refine ⟨_, _, rfl, ?_⟩ | refine ⟨slen rfl, ?_⟩ | refine ⟨⟨by decide, by decide +kernel⟩, ?_⟩ | refine ⟨⟨by decide, by decide, by decide⟩, ?_⟩ | refine ⟨(by show (0 : Int) < _; first | decide | assumption | omega), ?_⟩ | refine ⟨mul_ok (by first | exact .inr (by decide) | exact .inl (by decide)), ?_⟩))
      (intro tp ntp; generalize hGtp : upd _ tp _ = H7; have eH7 := exG hGtp ntp; have htp := atG hGtp; clear hGtp)
      have x37 : XB s H3 H7 := (xb4.trans (XB.of eH5)).trans (xb6.trans (XB.of eH7))
      have hx7 := x37 _ _ nfs hx1
      have hm7 : MovR H7 xs ms := hx2.xb src3 x37
      have hq7 := eH7 _ _ (tup_xb src5 (eH5 _ _ hq) xb6)
      refine ⟨f, _, _, rfl, rfl, hx7, ?_, ?_⟩
      · rw [hm7.len, lm]
        have : i < r.toNat := hi
        exact Nat.lt_of_le_of_lt (show i ≤ 1001 by omega) (by decide)
      refine ⟨_, ms ++ [(cs, bk)], rfl, ⟨_, upd_same, MovR.snoc (c := q) ?_ ?_ (hm7.upd hx7)⟩, by rw [List.length_append, lm]; rfl, fun m h => ?_, (xb3.trans x37).app nf, (src6.mono eH7).app nfs⟩
      · rw [upd_ne (ne_of htp hx7 (by intro z; cases z))]
        exact htp
      · rw [upd_ne (ne_of hq7 hx7 (by intro z; cases z))]
        exact hq7
      · rcases List.mem_append.mp h with h | h
        · exact hmm m h
        · rw [List.mem_singleton.mp h]
          exact lc
    · rintro σ H3 ⟨y4, ms, rfl, hx, lm, hmm, xb3, src3⟩
      have lm2 : ms.length = r.toNat := lm
      exact ⟨_, rfl, k f ms _ nf hx (by omega) hmm xb3 src3⟩
end

/-! ### comprehensions of new tuples -/
theorem paired_mono {α : Type} {P Q : V → α → Prop} (h : ∀ v a, P v a → Q v a) : ∀ {xs : List V} {as : List α}, Paired P xs as → Paired Q xs as
  | _, _, .nil => .nil
  | _, _, .cons q t => .cons (h _ _ q) (paired_mono h t)
theorem paired_snoc {α : Type} {P : V → α → Prop} {v : V} {a : α} (h : P v a) : ∀ {xs : List V} {as : List α}, Paired P xs as → Paired P (xs ++ [v]) (as ++ [a])
  | _, _, .nil => .cons h .nil
  | _, _, .cons q t => .cons q (paired_snoc h t)
theorem lc_new {α : Type} (Pd : Hp → V → α → Prop) (mono : ∀ (H H2 : Hp) (v : V) (a : α), (∀ c xs, H c = some (.tup xs) → H2 c = some (.tup xs)) → Pd H v a → Pd H2 v a)
    {J : It} {n : Nat} {G : Hp → Prop} {Y : Nat → Hp → V → Hp → Prop} (w : Walk J n G Y) {g : TG} {te : TE} {vs : List Nat} {σ : L2.St} {H1 : Hp} {D : Addr} {Qd : Hp → Prop} (as : List α) (hn : as.length = n) (hl : n ≤ 10000000) (hD : H1 D = none)
    (hG : ∀ H, Ex H1 H → G H)
    (hs : ∀ i x a H H2 (R : VK), as[i]? = some a → Ex H1 H → Y i H x H2 → (∀ v H5, Ex H H5 → Pd H5 v a → R v H5) → g x (wipe σ vs) H2 fun σ2 H3 => wipe σ2 vs = wipe σ vs ∧ te σ2 H3 R)
    (hg : ∀ x σ2 H2 (R R2 : L2.St → Hp → Prop), (∀ σ3 H3, R σ3 H3 → R2 σ3 H3) → g x σ2 H2 R → g x σ2 H2 R2)
    (hd : ∀ H xs, Ex H1 H → H D = some (.lst xs) → Paired (Pd H) xs as → Qd H) :
    ∃ W : Nat → Nat → Hp → Prop, (∃ m, W 0 m (upd H1 D (.lst []))) ∧ ∀ i m H, W i m H →
      (J.stop i H ∧ Qd H) ∨ (J.go i H ∧ ∃ Nx : Hp → Prop, (∀ H2, Nx H2 → ∃ m2, m2 < m ∧ W (i + 1) m2 H2) ∧ ∀ x H2, J.yld i H x H2 → g x (wipe σ vs) H2 fun σ2 H3 => wipe σ2 vs = wipe σ vs ∧ tYes σ2 H3 fun b H4 =>
        if b = true then te σ2 H4 fun y H5 => ∃ acc, H5 D = some (.lst acc) ∧ acc.length < sizeLine ∧ Nx (upd H5 D (.lst (acc ++ [y]))) else Nx H4) := by
  refine lc_it w (fun i H => Ex H1 H ∧ ∃ xs, H D = some (.lst xs) ∧ Paired (Pd H) xs (as.take i)) ⟨exn hD, [], upd_same, .nil⟩ (fun i H _ p => hG H p.1) (fun i x H H2 hi p y => ?_) (fun H p => ?_)
  · obtain ⟨a, ha⟩ : ∃ a, as[i]? = some a := ⟨_, List.getElem?_eq_getElem (by omega)⟩
    refine hg _ _ _ _ _ (fun σ3 H3 q => ⟨q.1, q.2⟩) (hs i x a H H2 (fun y H5 => ∃ acc, H5 D = some (.lst acc) ∧ acc.length < sizeLine ∧ Ex H1 (upd H5 D (.lst (acc ++ [y]))) ∧ ∃ xs, upd H5 D (.lst (acc ++ [y])) D = some (.lst xs) ∧ Paired (Pd (upd H5 D (.lst (acc ++ [y])))) xs (as.take (i + 1))) ha p.1 y fun v H5 e hv => ?_)
    obtain ⟨p1, xs, p2, p3⟩ := p
    have tp : ∀ c zs, H5 c = some (.tup zs) → upd H5 D (.lst (xs ++ [v])) c = some (.tup zs) := fun c zs z => by
      rw [upd_ne (ne_of z (e _ _ p2) (by intro q; cases q))]
      exact z
    refine ⟨xs, e _ _ p2, ?_, ex_upd (ext p1 e) hD, xs ++ [v], upd_same, ?_⟩
    · rw [Paired.length p3, List.length_take]
      exact Nat.lt_of_le_of_lt (Nat.le_trans (Nat.min_le_right _ _) (by rw [hn]; exact hl)) (by decide)
    · rw [take_more ha]
      refine paired_snoc (mono _ _ _ _ tp hv) (paired_mono (fun v a q => mono _ _ _ _ tp (mono _ _ _ _ (fun c zs z => e _ _ z) q)) p3)
  · obtain ⟨p1, xs, p2, p3⟩ := p
    rw [List.take_of_length_le (by omega)] at p3
    exact hd H xs p1 p2 p3
def PdRow (H : Hp) (x : V) (hs : List Int) : Prop := ∃ r, x = V.ref r ∧ H r = some (.tup (hs.map V.int))
theorem pdrow_mono (H H2 : Hp) (v : V) (a : List Int) (e : ∀ c xs, H c = some (.tup xs) → H2 c = some (.tup xs)) (h : PdRow H v a) : PdRow H2 v a := by
  obtain ⟨r, h1, h2⟩ := h
  exact ⟨r, h1, e _ _ h2⟩

/-- a comprehension of new objects with a test -/
theorem lc_newF {α : Type} (Pd : Hp → V → α → Prop) (mono : ∀ (H H2 : Hp) (v : V) (a : α), (∀ c xs, H c = some (.tup xs) → H2 c = some (.tup xs)) → Pd H v a → Pd H2 v a)
    {J : It} {n : Nat} {G : Hp → Prop} {Y : Nat → Hp → V → Hp → Prop} (w : Walk J n G Y) {g : TG} {tt : TT} {te : TE} {vs : List Nat} {σ : L2.St} {H1 : Hp} {D : Addr} {Qd : Hp → Prop} (as : List α) (c : α → Bool) (hn : as.length = n) (hl : n ≤ 10000000) (hD : H1 D = none)
    (hG : ∀ H, Ex H1 H → G H)
    (hs : ∀ i x a H H2 (R : VK) (S : Hp → Prop), as[i]? = some a → Ex H1 H → Y i H x H2 → (∀ v H5, Ex H H5 → c a = true → Pd H5 v a → R v H5) → (∀ H4, Ex H H4 → c a = false → S H4) → g x (wipe σ vs) H2 fun σ2 H3 => wipe σ2 vs = wipe σ vs ∧ tt σ2 H3 fun b H4 => if b = true then te σ2 H4 R else S H4)
    (hd : ∀ H xs, Ex H1 H → H D = some (.lst xs) → Paired (Pd H) xs (as.filter c) → Qd H) :
    ∃ W : Nat → Nat → Hp → Prop, (∃ m, W 0 m (upd H1 D (.lst []))) ∧ ∀ i m H, W i m H →
      (J.stop i H ∧ Qd H) ∨ (J.go i H ∧ ∃ Nx : Hp → Prop, (∀ H2, Nx H2 → ∃ m2, m2 < m ∧ W (i + 1) m2 H2) ∧ ∀ x H2, J.yld i H x H2 → g x (wipe σ vs) H2 fun σ2 H3 => wipe σ2 vs = wipe σ vs ∧ tt σ2 H3 fun b H4 =>
        if b = true then te σ2 H4 fun y H5 => ∃ acc, H5 D = some (.lst acc) ∧ acc.length < sizeLine ∧ Nx (upd H5 D (.lst (acc ++ [y]))) else Nx H4) := by
  refine lc_it w (fun i H => Ex H1 H ∧ ∃ xs, H D = some (.lst xs) ∧ Paired (Pd H) xs ((as.take i).filter c)) ⟨exn hD, [], upd_same, .nil⟩ (fun i H _ p => hG H p.1) (fun i x H H2 hi p y => ?_) (fun H p => ?_)
  · obtain ⟨a, ha⟩ : ∃ a, as[i]? = some a := ⟨as[i]'(by omega), List.getElem?_eq_getElem (by omega)⟩
    obtain ⟨p1, xs, p2, p3⟩ := p
    refine hs i x a H H2 _ (fun H3 => Ex H1 H3 ∧ ∃ xs, H3 D = some (.lst xs) ∧ Paired (Pd H3) xs ((as.take (i + 1)).filter c)) ha p1 y (fun v H5 e hc hv => ?_) (fun H4 e hc => ?_)
    · have tp : ∀ c zs, H5 c = some (.tup zs) → upd H5 D (.lst (xs ++ [v])) c = some (.tup zs) := fun c zs z => by
        rw [upd_ne (ne_of z (e _ _ p2) (by intro q; cases q))]
        exact z
      refine ⟨xs, e _ _ p2, ?_, ex_upd (ext p1 e) hD, xs ++ [v], upd_same, ?_⟩
      · rw [Paired.length p3]
        refine Nat.lt_of_le_of_lt (Nat.le_trans (List.length_filter_le _ _) ?_) (show 10000000 < sizeLine by decide)
        rw [List.length_take]
        omega
      · rw [take_more ha, List.filter_append, show [a].filter c = [a] by simp [hc]]
        exact paired_snoc (mono _ _ _ _ tp hv) (paired_mono (fun v a q => mono _ _ _ _ tp (mono _ _ _ _ (fun c zs z => e _ _ z) q)) p3)
    · refine ⟨ext p1 e, xs, e _ _ p2, ?_⟩
      rw [take_more ha, List.filter_append, show [a].filter c = [] by simp [hc], List.append_nil]
      exact paired_mono (fun v a q => mono _ _ _ _ (fun c zs z => e _ _ z) q) p3
  · obtain ⟨p1, xs, p2, p3⟩ := p
    rw [List.take_of_length_le (by omega)] at p3
    exact hd H xs p1 p2 p3
/-- .. of new objects of any kind, beside the list itself -/
theorem lc_newG {α : Type} {D : Addr} (Pd : Hp → V → α → Prop) (mono : ∀ (H H2 : Hp) (v : V) (a : α) (ys : List V), H D = some (.lst ys) → (∀ c o, c ≠ D → H c = some o → H2 c = some o) → Pd H v a → Pd H2 v a)
    {J : It} {n : Nat} {G : Hp → Prop} {Y : Nat → Hp → V → Hp → Prop} (w : Walk J n G Y) {g : TG} {tt : TT} {te : TE} {vs : List Nat} {σ : L2.St} {H1 : Hp} {Qd : Hp → Prop} (as : List α) (c : α → Bool) (hn : as.length = n) (hl : n ≤ 10000000) (hD : H1 D = none)
    (hG : ∀ H, Ex H1 H → G H)
    (hs : ∀ i x a H H2 (R : VK) (S : Hp → Prop), as[i]? = some a → Ex H1 H → (∃ ys, H D = some (.lst ys)) → Y i H x H2 → (∀ v H5, Ex H H5 → c a = true → Pd H5 v a → R v H5) → (∀ H4, Ex H H4 → c a = false → S H4) → g x (wipe σ vs) H2 fun σ2 H3 => wipe σ2 vs = wipe σ vs ∧ tt σ2 H3 fun b H4 => if b = true then te σ2 H4 R else S H4)
    (hd : ∀ H xs, Ex H1 H → H D = some (.lst xs) → Paired (Pd H) xs (as.filter c) → Qd H) :
    ∃ W : Nat → Nat → Hp → Prop, (∃ m, W 0 m (upd H1 D (.lst []))) ∧ ∀ i m H, W i m H →
      (J.stop i H ∧ Qd H) ∨ (J.go i H ∧ ∃ Nx : Hp → Prop, (∀ H2, Nx H2 → ∃ m2, m2 < m ∧ W (i + 1) m2 H2) ∧ ∀ x H2, J.yld i H x H2 → g x (wipe σ vs) H2 fun σ2 H3 => wipe σ2 vs = wipe σ vs ∧ tt σ2 H3 fun b H4 =>
        if b = true then te σ2 H4 fun y H5 => ∃ acc, H5 D = some (.lst acc) ∧ acc.length < sizeLine ∧ Nx (upd H5 D (.lst (acc ++ [y]))) else Nx H4) := by
  refine lc_it w (fun i H => Ex H1 H ∧ ∃ xs, H D = some (.lst xs) ∧ Paired (Pd H) xs ((as.take i).filter c)) ⟨exn hD, [], upd_same, .nil⟩ (fun i H _ p => hG H p.1) (fun i x H H2 hi p y => ?_) (fun H p => ?_)
  · obtain ⟨a, ha⟩ : ∃ a, as[i]? = some a := ⟨as[i]'(by omega), List.getElem?_eq_getElem (by omega)⟩
    obtain ⟨p1, xs, p2, p3⟩ := p
    refine hs i x a H H2 _ (fun H3 => Ex H1 H3 ∧ ∃ xs, H3 D = some (.lst xs) ∧ Paired (Pd H3) xs ((as.take (i + 1)).filter c)) ha p1 ⟨xs, p2⟩ y (fun v H5 e hc hv => ?_) (fun H4 e hc => ?_)
    · have tp : ∀ c o, c ≠ D → H5 c = some o → upd H5 D (.lst (xs ++ [v])) c = some o := fun c o n z => by
        rw [upd_ne n]
        exact z
      refine ⟨xs, e _ _ p2, ?_, ex_upd (ext p1 e) hD, xs ++ [v], upd_same, ?_⟩
      · rw [Paired.length p3]
        refine Nat.lt_of_le_of_lt (Nat.le_trans (List.length_filter_le _ _) ?_) (show 10000000 < sizeLine by decide)
        rw [List.length_take]
        omega
      · rw [take_more ha, List.filter_append, show [a].filter c = [a] by simp [hc]]
        exact paired_snoc (mono _ _ _ _ _ (e _ _ p2) tp hv) (paired_mono (fun v a q => mono _ _ _ _ _ (e _ _ p2) tp (mono _ _ _ _ _ p2 (fun c o _ z => e _ _ z) q)) p3)
    · refine ⟨ext p1 e, xs, e _ _ p2, ?_⟩
      rw [take_more ha, List.filter_append, show [a].filter c = [] by simp [hc], List.append_nil]
      exact paired_mono (fun v a q => mono _ _ _ _ _ p2 (fun c o _ z => e _ _ z) q) p3
  · obtain ⟨p1, xs, p2, p3⟩ := p
    rw [List.take_of_length_le (by omega)] at p3
    exact hd H xs p1 p2 p3
/-- a new list of tuples of ints -/
def PdRows (D : Addr) (H : Hp) (v : V) (row : List (List Int)) : Prop := ∃ a, v = V.ref a ∧ a ≠ D ∧ RowsAt H a row
theorem pdrows_mono {D : Addr} (H H2 : Hp) (v : V) (row : List (List Int)) (ys : List V) (hD : H D = some (.lst ys)) (e : ∀ c o, c ≠ D → H c = some o → H2 c = some o) (h : PdRows D H v row) : PdRows D H2 v row := by
  obtain ⟨a, h1, h2, xs, h3, h4⟩ := h
  exact ⟨a, h1, h2, xs, e _ _ h2 h3, paired_mono (fun v hs ⟨r, q1, q2⟩ => ⟨r, q1, e _ _ (ne_of q2 hD (by intro z; cases z)) q2⟩) h4⟩

/-! ### any data, read from the heap; B says where its lists may lie -/
mutual
inductive Dq (B : Addr → Prop) (H : Hp) : V → PyData → Prop
  | non : Dq B H .non .none
  | bl (b : Bool) : Dq B H (.bl b) (.bool b)
  | int (i : Int) : Dq B H (.int i) (.int i)
  | str (x : Str) : Dq B H (.str x) (.str x)
  | lst {a : Addr} {xs : List V} {ds : List PyData} : H a = some (.lst xs) → B a → DqAll B H xs ds → Dq B H (.ref a) (.list ds)
  | tup {a : Addr} {xs : List V} {ds : List PyData} : H a = some (.tup xs) → DqAll B H xs ds → Dq B H (.ref a) (.tuple ds)
  | emp {a : Addr} : H a = some (.dK []) → Dq B H (.ref a) (.dict [])
inductive DqAll (B : Addr → Prop) (H : Hp) : List V → List PyData → Prop
  | nil : DqAll B H [] []
  | cons {v : V} {vs : List V} {d : PyData} {ds : List PyData} : Dq B H v d → DqAll B H vs ds → DqAll B H (v :: vs) (d :: ds)
end
mutual
theorem Dq.to {B B2 : Addr → Prop} {H H2 : Hp} (l : ∀ a xs, B a → H a = some (.lst xs) → H2 a = some (.lst xs) ∧ B2 a) (t : ∀ a xs, H a = some (.tup xs) → H2 a = some (.tup xs)) (e0 : ∀ a, H a = some (.dK []) → H2 a = some (.dK [])) : ∀ {d : PyData} {v : V}, Dq B H v d → Dq B2 H2 v d
  | _, _, .non => .non
  | _, _, .bl b => .bl b
  | _, _, .int i => .int i
  | _, _, .str x => .str x
  | _, _, .lst h b hs => .lst (l _ _ b h).1 (l _ _ b h).2 (DqAll.to l t e0 hs)
  | _, _, .tup h hs => .tup (t _ _ h) (DqAll.to l t e0 hs)
  | _, _, .emp h => .emp (e0 _ h)
theorem DqAll.to {B B2 : Addr → Prop} {H H2 : Hp} (l : ∀ a xs, B a → H a = some (.lst xs) → H2 a = some (.lst xs) ∧ B2 a) (t : ∀ a xs, H a = some (.tup xs) → H2 a = some (.tup xs)) (e0 : ∀ a, H a = some (.dK []) → H2 a = some (.dK [])) : ∀ {ds : List PyData} {vs : List V}, DqAll B H vs ds → DqAll B2 H2 vs ds
  | _, _, .nil => .nil
  | _, _, .cons h hs => .cons (Dq.to l t e0 h) (DqAll.to l t e0 hs)
end
theorem Dq.mono {B : Addr → Prop} {H H2 : Hp} (e : Ex H H2) {d : PyData} {v : V} (h : Dq B H v d) : Dq B H2 v d := h.to (fun _ _ b h => ⟨e _ _ h, b⟩) (fun _ _ h => e _ _ h) (fun _ h => e _ _ h)
theorem DqAll.mono {B : Addr → Prop} {H H2 : Hp} (e : Ex H H2) {ds : List PyData} {vs : List V} (h : DqAll B H vs ds) : DqAll B H2 vs ds := h.to (fun _ _ b h => ⟨e _ _ h, b⟩) (fun _ _ h => e _ _ h) (fun _ h => e _ _ h)
mutual
theorem Dq.de {K : PySem.W.Frag} {B : Addr → Prop} {H : Hp} : ∀ {d : PyData} {v : V}, Dq B H v d → CG.De K H v d
  | _, _, .non => .non
  | _, _, .bl b => .bl b
  | _, _, .int i => .int i
  | _, _, .str x => .str x
  | _, _, .lst h _ hs => .lst (SqL.of h) (DqAll.de hs)
  | _, _, .tup h hs => .tup (SqT.of h) (DqAll.de hs)
  | _, _, .emp h => .emp h
theorem DqAll.de {K : PySem.W.Frag} {B : Addr → Prop} {H : Hp} : ∀ {ds : List PyData} {vs : List V}, DqAll B H vs ds → CG.DeAll K H vs ds
  | _, _, .nil => .nil
  | _, _, .cons h hs => .cons (Dq.de h) (DqAll.de hs)
end
theorem DqAll.ints {B : Addr → Prop} {H : Hp} : ∀ (is : List Int), DqAll B H (is.map V.int) (is.map PyData.int)
  | [] => .nil
  | i :: is => .cons (.int i) (DqAll.ints is)
theorem Dq.ints {B : Addr → Prop} {H : Hp} {a : Addr} {is : List Int} (h : H a = some (.tup (is.map V.int))) : Dq B H (.ref a) (iT is) := .tup h (DqAll.ints is)
/-- an int that is no bool -/
def intD : PyData → Option Int
  | .int i => some i
  | _ => none
theorem Dq.isI {K : PySem.W.Frag} {B : Addr → Prop} {H : Hp} {v : V} {d : PyData} (h : Dq B H v d) : IsI K H v (intD d) := by
  cases h with
  | int i => exact rfl
  | non => exact ⟨_, _, _, .base .non, kit_ty (r := false) (by decide +kernel), kit_ty (r := false) (by decide +kernel), rfl⟩
  | bl b => exact ⟨_, _, _, .base (.bl b), kit_ty (r := true) (by decide +kernel), kit_ty (r := true) (by decide +kernel), rfl⟩
  | str x => exact ⟨_, _, _, .base (.str x), kit_ty (r := false) (by decide +kernel), kit_ty (r := false) (by decide +kernel), rfl⟩
  | lst h _ _ => exact ⟨_, _, _, .base (.lst h), kit_ty (r := false) (by decide +kernel), kit_ty (r := false) (by decide +kernel), rfl⟩
  | tup h _ => exact ⟨_, _, _, .base (.tup h), kit_ty (r := false) (by decide +kernel), kit_ty (r := false) (by decide +kernel), rfl⟩
  | emp h => exact ⟨_, _, _, .base (.dK h), kit_ty (r := false) (by decide +kernel), kit_ty (r := false) (by decide +kernel), rfl⟩
/-- what is in a tuple -/
def tupD : PyData → Option (List PyData)
  | .tuple ds => some ds
  | _ => none
theorem Dq.isT {K : PySem.W.Frag} {B : Addr → Prop} {H : Hp} {v : V} {d : PyData} (h : Dq B H v d) : ∃ t, TyX K H v t ∧ PySem.W.kitOne K t (.type "tuple") = some (tupD d).isSome := by
  cases h with
  | int i => exact ⟨_, .base (.int i), kit_ty (r := false) (by decide +kernel)⟩
  | non => exact ⟨_, .base .non, kit_ty (r := false) (by decide +kernel)⟩
  | bl b => exact ⟨_, .base (.bl b), kit_ty (r := false) (by decide +kernel)⟩
  | str x => exact ⟨_, .base (.str x), kit_ty (r := false) (by decide +kernel)⟩
  | lst h _ _ => exact ⟨_, .base (.lst h), kit_ty (r := false) (by decide +kernel)⟩
  | tup h _ => exact ⟨_, .base (.tup h), kit_ty (r := true) (by decide +kernel)⟩
  | emp h => exact ⟨_, .base (.dK h), kit_ty (r := false) (by decide +kernel)⟩
theorem Dq.tupA {B : Addr → Prop} {H : Hp} {v : V} {d : PyData} {ds : List PyData} (h : Dq B H v d) (e : tupD d = some ds) : ∃ a xs, v = .ref a ∧ H a = some (.tup xs) ∧ DqAll B H xs ds := by
  cases h with
  | tup h hs => cases e; exact ⟨_, _, rfl, h, hs⟩
  | _ => cases e
theorem DqAll.len {B : Addr → Prop} {H : Hp} : ∀ {xs : List V} {ds : List PyData}, DqAll B H xs ds → xs.length = ds.length
  | _, _, .nil => rfl
  | _, _, .cons _ t => by rw [List.length_cons, List.length_cons, DqAll.len t]
theorem DqAll.get {B : Addr → Prop} {H : Hp} : ∀ {xs : List V} {ds : List PyData} {j : Nat} {x : V}, DqAll B H xs ds → xs[j]? = some x → ∃ d, ds[j]? = some d ∧ Dq B H x d
  | _, _, _, _, .nil, h => by simp at h
  | _, _, 0, _, .cons h _, e => ⟨_, rfl, by obtain rfl := Option.some.inj e; exact h⟩
  | _, _, j + 1, _, .cons _ t, e => DqAll.get (j := j) t (by simpa using e)
theorem dq_ints {B : Addr → Prop} {H : Hp} : ∀ {xs : List V} {ws : List PyData}, DqAll B H xs ws → (∀ w ∈ ws, ∃ i, intD w = some i) → ∃ is : List Int, ws = is.map PyData.int ∧ xs = is.map V.int
  | _, _, .nil, _ => ⟨[], rfl, rfl⟩
  | _, _, .cons h t, a => by
    obtain ⟨is, e1, e2⟩ := dq_ints t fun w hw => a w (List.mem_cons_of_mem _ hw)
    obtain ⟨i, hi⟩ := a _ List.mem_cons_self
    cases h with
    | int j => exact ⟨j :: is, by rw [e1]; rfl, by rw [e2]; rfl⟩
    | _ => cases hi
theorem ints_of : ∀ {ws : List PyData}, (∀ w ∈ ws, ∃ i, intD w = some i) → ∃ is : List Int, ws = is.map PyData.int
  | [], _ => ⟨[], rfl⟩
  | w :: ws, a => by
    obtain ⟨is, e1⟩ := ints_of fun w hw => a w (List.mem_cons_of_mem _ hw)
    obtain ⟨i, hi⟩ := a _ List.mem_cons_self
    cases w with
    | int j => exact ⟨j :: is, by rw [e1]; rfl⟩
    | _ => cases hi
theorem fm_ints (is : List Int) : (is.map PyData.int).filterMap intD = is := by
  induction is with
  | nil => rfl
  | cons i is ih => rw [List.map_cons, List.filterMap_cons, ih]; rfl
theorem betw_some {o : Option Int} {a b : Int} (h : between o a b = true) : ∃ i, o = some i ∧ a ≤ i ∧ i ≤ b := by
  cases o with
  | none => cases h
  | some i =>
    have h2 : (decide (a ≤ i) && decide (i ≤ b)) = true := h
    rw [Bool.and_eq_true, decide_eq_true_iff, decide_eq_true_iff] at h2
    exact ⟨i, rfl, h2.1, h2.2⟩

def oT (d : PyData) : Option (List (Option Int)) := (tupD d).map fun es => es.map intD
def intsD (d : PyData) : List Int := ((tupD d).getD []).filterMap intD
/-- no tuple is too long -/
def ShortT (d : PyData) : Prop := ∀ es, tupD d = some es → es.length ≤ 1000
theorem Dq.tA {K : PySem.W.Frag} {B : Addr → Prop} {H : Hp} {v : V} {d : PyData} (h : Dq B H v d) (tb : ShortT d) : TupA K H v (oT d) := by
  have all : ∀ {xs : List V} {ds : List PyData}, DqAll B H xs ds → Paired (IsI K H) xs (ds.map intD) := by
    intro xs ds q
    induction xs generalizing ds with
    | nil => cases q; exact .nil
    | cons x xs ih =>
      cases q with
      | cons a b => exact .cons a.isI (ih b)
  cases h with
  | tup h hs => exact ⟨_, _, rfl, h, by rw [hs.len]; exact tb _ rfl, all hs⟩
  | int i => exact ⟨_, .base (.int i), kit_ty (r := false) (by decide +kernel)⟩
  | non => exact ⟨_, .base .non, kit_ty (r := false) (by decide +kernel)⟩
  | bl b => exact ⟨_, .base (.bl b), kit_ty (r := false) (by decide +kernel)⟩
  | str x => exact ⟨_, .base (.str x), kit_ty (r := false) (by decide +kernel)⟩
  | lst h _ _ => exact ⟨_, .base (.lst h), kit_ty (r := false) (by decide +kernel)⟩
  | emp h => exact ⟨_, .base (.dK h), kit_ty (r := false) (by decide +kernel)⟩
theorem betw_all : ∀ {ns : List Int} {ws : List PyData}, ws.length = ns.length → (List.zipWith (fun o n => between o 0 (n - 1)) (ws.map intD) ns).all id = true → ∃ ps : List Int, ws = ps.map PyData.int ∧ SeatOk ns ps
  | [], [], _, _ => ⟨[], rfl, True.intro⟩
  | n :: ns, w :: ws, l, h => by
    rw [List.map_cons, List.zipWith_cons_cons, List.all_cons, Bool.and_eq_true] at h
    obtain ⟨ps, rfl, sk⟩ := betw_all (ns := ns) (ws := ws) (by simpa using l) h.2
    obtain ⟨i, e, i0, i1⟩ := betw_some (show between (intD w) 0 (n - 1) = true from h.1)
    cases w with
    | int j =>
      cases e
      exact ⟨_ :: ps, rfl, ⟨i0, by omega⟩, sk⟩
    | _ => cases e
theorem seat_ints {ns : List Int} {d : PyData} (h : isSeatO ns (oT d) = true) : ∃ ps, d = iT ps ∧ SeatOk ns ps := by
  cases d with
  | tuple ws =>
    have h : (decide ((ws.map intD).length = ns.length) && (List.zipWith (fun o n => between o 0 (n - 1)) (ws.map intD) ns).all id) = true := h
    rw [Bool.and_eq_true, decide_eq_true_iff, List.length_map] at h
    obtain ⟨ps, rfl, sk⟩ := betw_all h.1 h.2
    exact ⟨ps, rfl, sk⟩
  | _ => cases h
theorem call_ints {ns : List Int} {d : PyData} (h : isCallO ns (oT d) = true) : ∃ cs, d = iT cs ∧ cs.length = ns.length := by
  cases d with
  | tuple ws =>
    have h : (decide ((ws.map intD).length = ns.length) && ((ws.map intD).map Option.isSome).all id) = true := h
    rw [Bool.and_eq_true, decide_eq_true_iff, List.length_map, List.all_eq_true] at h
    obtain ⟨cs, rfl⟩ := ints_of (ws := ws) fun w hw => Option.isSome_iff_exists.mp (h.2 _ (List.mem_map.mpr ⟨_, List.mem_map.mpr ⟨w, hw, rfl⟩, rfl⟩))
    exact ⟨cs, rfl, by rw [← h.1, List.length_map]⟩
  | _ => cases h
/-! ### targets of any kind -/
/-- a value that is no list and no tuple -/
def NoSeq (H : Hp) (x : V) : Prop := x = .non ∨ (∃ b, x = .bl b) ∨ (∃ i, x = .int i) ∨ (∃ z, x = .str z) ∨ ∃ a, x = .ref a ∧ ((∃ kvs, H a = some (.dK kvs)) ∨ ∃ kvs, H a = some (.dT kvs))
theorem NoSeq.ty {K : PySem.W.Frag} {H : Hp} {x : V} (h : NoSeq H x) : ∃ ty, TyX K H x ty ∧ PySem.W.kitAny K ty [.type "list", .type "tuple"] = some false := by
  have no : ∀ {t : String}, PySem.W.kitOne K (.type t) (.type "list") = some false → PySem.W.kitOne K (.type t) (.type "tuple") = some false → PySem.W.kitAny K (.type t) [.type "list", .type "tuple"] = some false := fun {t} h1 h2 => kitAny_cons h1 (fun _ => kitAny_cons h2 (fun _ => rfl) (fun z => nomatch z)) (fun z => nomatch z)
  rcases h with rfl | ⟨b, rfl⟩ | ⟨i, rfl⟩ | ⟨z, rfl⟩ | ⟨a, rfl, ⟨kvs, h⟩ | ⟨kvs, h⟩⟩
  · exact ⟨_, .base .non, no (kit_ty (r := false) (by decide +kernel)) (kit_ty (r := false) (by decide +kernel))⟩
  · exact ⟨_, .base (.bl b), no (kit_ty (r := false) (by decide +kernel)) (kit_ty (r := false) (by decide +kernel))⟩
  · exact ⟨_, .base (.int i), no (kit_ty (r := false) (by decide +kernel)) (kit_ty (r := false) (by decide +kernel))⟩
  · exact ⟨_, .base (.str z), no (kit_ty (r := false) (by decide +kernel)) (kit_ty (r := false) (by decide +kernel))⟩
  · exact ⟨_, .base (.dK h), no (kit_ty (r := false) (by decide +kernel)) (kit_ty (r := false) (by decide +kernel))⟩
  · exact ⟨_, .base (.dT h), no (kit_ty (r := false) (by decide +kernel)) (kit_ty (r := false) (by decide +kernel))⟩
theorem NoSeq.to {H H2 : Hp} {x : V} (k : ∀ a kvs, H a = some (.dK kvs) → H2 a = some (.dK kvs)) (t : ∀ a kvs, H a = some (.dT kvs) → H2 a = some (.dT kvs)) (h : NoSeq H x) : NoSeq H2 x := by
  rcases h with rfl | ⟨b, rfl⟩ | ⟨i, rfl⟩ | ⟨z, rfl⟩ | ⟨a, rfl, ⟨kvs, h⟩ | ⟨kvs, h⟩⟩
  · exact .inl rfl
  · exact .inr (.inl ⟨b, rfl⟩)
  · exact .inr (.inr (.inl ⟨i, rfl⟩))
  · exact .inr (.inr (.inr (.inl ⟨z, rfl⟩)))
  · exact .inr (.inr (.inr (.inr ⟨a, rfl, .inl ⟨kvs, k _ _ h⟩⟩)))
  · exact .inr (.inr (.inr (.inr ⟨a, rfl, .inr ⟨kvs, t _ _ h⟩⟩)))
/-- a value that is no list and no tuple (none), or the entries of one -/
def TgtAt (K : PySem.W.Frag) (B : Addr → Prop) (H : Hp) (x : V) : Option (List PyData) → Prop
  | none => NoSeq H x
  | some ds => ∃ (q : Bool × Addr) (xs : List V), x = .ref q.2 ∧ SqH H q xs ∧ DqAll B H xs ds
def goT (ns : List Int) : List PyData → List (List Int) → Option Int
  | [], _ => none
  | d :: ds, seen => if isSeatO ns (oT d) = true ∧ intsD d ∉ seen then goT ns ds (seen ++ [intsD d]) else some (seen.length : Int)
def tgtDue (ns : List Int) : Option (List PyData) → Option Int
  | none => some (-1)
  | some ds => if ds = [] then some (-1) else goT ns ds []
theorem goT_step {ns : List Int} {ds : List PyData} {d : PyData} {i : Nat} {seen : List (List Int)} (h : ds[i]? = some d) : goT ns (ds.drop i) seen = if isSeatO ns (oT d) = true ∧ intsD d ∉ seen then goT ns (ds.drop (i + 1)) (seen ++ [intsD d]) else some (seen.length : Int) := by
  have il := (List.getElem?_eq_some_iff.mp h).1
  have e : ds.drop i = d :: ds.drop (i + 1) := by
    rw [List.drop_eq_getElem_cons il]
    rw [List.getElem?_eq_getElem il] at h
    rw [Option.some.inj h]
  rw [e]
  rfl
theorem Dq.tgt {K : PySem.W.Frag} {B : Addr → Prop} {H : Hp} {v : V} {d : PyData} (q : Dq B H v d) : TgtAt K B H v (match d with | .list ds => some ds | .tuple ds => some ds | _ => none) := by
  cases q with
  | lst h _ hs => exact ⟨(false, _), _, rfl, h, hs⟩
  | tup h hs => exact ⟨(true, _), _, rfl, h, hs⟩
  | non => exact .inl rfl
  | bl b => exact .inr (.inl ⟨b, rfl⟩)
  | int i => exact .inr (.inr (.inl ⟨i, rfl⟩))
  | str z => exact .inr (.inr (.inr (.inl ⟨z, rfl⟩)))
  | emp h => exact .inr (.inr (.inr (.inr ⟨_, rfl, .inl ⟨_, h⟩⟩)))
theorem TgtAt.mono {K : PySem.W.Frag} {B : Addr → Prop} {H H2 : Hp} {x : V} {od : Option (List PyData)} (e : Ex H H2) (h : TgtAt K B H x od) : TgtAt K B H2 x od := by
  cases od with
  | none =>
    exact NoSeq.to (fun a kvs z => e _ _ z) (fun a kvs z => e _ _ z) h
  | some ds =>
    obtain ⟨q, xs, rfl, h1, h2⟩ := h
    exact ⟨q, xs, rfl, h1.mono e, h2.mono e⟩
theorem intsD_is (ps : List Int) : intsD (iT ps) = ps := fm_ints ps

/-- an exception with one field -/
def sp_exi (C : Addr) (f : Str) : Sp := fun vs H Q _ => ∃ (a : Addr) (x : V), vs = [.ref a, x] ∧ H a = some (exo a C none) ∧ ∀ dx, H dx = none → dx ≠ a → Q .non (upd (upd H dx (exd dx [(f, x)])) a (exo a C (some dx)))
theorem exc_made {H : Hp} {a C : Addr} {f : Str} {x : V} {E E1 : XK} (na : H a = none) (k : ∀ d H2, Ex H H2 → H2 d = some (.xd [(f, x)]) → E (.ref C) (some d) H2) :
    sp_exi C f [.ref a, x] (upd H a (exo a C none)) (fun v H2 => v = .non ∧ ∃ (d : Addr) (fs : List (Str × V)), H2 a = some (exo a C (some d)) ∧ H2 d = some (exd d fs) ∧ H d = none ∧ E (.ref C) (some d) (upd (del H2 a) d (.xd fs))) E1 := by
  refine ⟨a, x, rfl, upd_same, fun dx hd ne => ⟨rfl, dx, _, upd_same, by rw [upd_ne ne, upd_same], by rw [upd_ne ne] at hd; exact hd, k _ _ (fun c o hc => ?_) upd_same⟩⟩
  have ca : c ≠ a := ne_of_none hc na
  have cd : c ≠ dx := ne_of_none hc (by rw [upd_ne ne] at hd; exact hd)
  rw [upd_ne cd, del_ne ca, upd_ne ca, upd_ne cd, upd_ne ca]
  exact hc

section
variable {P : Program} {w : World} {K : PySem.W.Frag} {mg : Str → Option Value} {base : Heap}
theorem ok_InvalidTable_init (T : TX K mg) : FnOk P w K mg base CX0 1 T.f_InvalidTable_init T.fd_InvalidTable_init ["self", "rings"] (sp_exi T.C_InvalidTable "rings") := by
  refine T.F_InvalidTable_init.ok sc_InvalidTable_init (fun vs H Q E h => ?_) (fun cdv A outer s H vs Q E hr h => ?_)
  · obtain ⟨a, x, rfl, _⟩ := h
    rfl
  · obtain ⟨a, x, rfl, ha, k⟩ := h
    refine ⟨_, (pss_one (ps_ost (pv 0) (pv 1))), ?_⟩
    exact ⟨_, rfl, _, rfl, a, _, rfl, T.ox_InvalidTable, T.n_InvalidTable_rings, .inl ⟨ha, fun dx n ne => k dx n ne⟩⟩
end

section
variable {P : Program} {w : World} {K : PySem.W.Frag} {mg : Str → Option Value} {base : Heap}
theorem ok_InvalidTargets_init (T : TX K mg) : FnOk P w K mg base CX0 1 T.f_InvalidTargets_init T.fd_InvalidTargets_init ["self", "index"] (sp_exi T.C_InvalidTargets "index") := by
  refine T.F_InvalidTargets_init.ok sc_InvalidTargets_init (fun vs H Q E h => ?_) (fun cdv A outer s H vs Q E hr h => ?_)
  · obtain ⟨a, x, rfl, _⟩ := h
    rfl
  · obtain ⟨a, x, rfl, ha, k⟩ := h
    refine ⟨_, (pss_one (ps_ost (pv 0) (pv 1))), ?_⟩
    exact ⟨_, rfl, _, rfl, a, _, rfl, T.ox_InvalidTargets, T.n_InvalidTargets_index, .inl ⟨ha, fun dx n ne => k dx n ne⟩⟩
end

section
variable {P : Program} {w : World} {K : PySem.W.Frag} {mg : Str → Option Value} {base : Heap}
theorem ok_InvalidSeat_init (T : TX K mg) : FnOk P w K mg base CX0 1 T.f_InvalidSeat_init T.fd_InvalidSeat_init ["self", "seat"] (sp_exi T.C_InvalidSeat "seat") := by
  refine T.F_InvalidSeat_init.ok sc_InvalidSeat_init (fun vs H Q E h => ?_) (fun cdv A outer s H vs Q E hr h => ?_)
  · obtain ⟨a, x, rfl, _⟩ := h
    rfl
  · obtain ⟨a, x, rfl, ha, k⟩ := h
    refine ⟨_, (pss_one (ps_ost (pv 0) (pv 1))), ?_⟩
    exact ⟨_, rfl, _, rfl, a, _, rfl, T.ox_InvalidSeat, T.n_InvalidSeat_seat, .inl ⟨ha, fun dx n ne => k dx n ne⟩⟩
end

section
variable {P : Program} {w : World} {K : PySem.W.Frag} {mg : Str → Option Value} {base : Heap}
theorem ok_InvalidMoves_init (T : TX K mg) : FnOk P w K mg base CX0 1 T.f_InvalidMoves_init T.fd_InvalidMoves_init ["self", "index"] (sp_exi T.C_InvalidMoves "index") := by
  refine T.F_InvalidMoves_init.ok sc_InvalidMoves_init (fun vs H Q E h => ?_) (fun cdv A outer s H vs Q E hr h => ?_)
  · obtain ⟨a, x, rfl, _⟩ := h
    rfl
  · obtain ⟨a, x, rfl, ha, k⟩ := h
    refine ⟨_, (pss_one (ps_ost (pv 0) (pv 1))), ?_⟩
    exact ⟨_, rfl, _, rfl, a, _, rfl, T.ox_InvalidMoves, T.n_InvalidMoves_index, .inl ⟨ha, fun dx n ne => k dx n ne⟩⟩
end

section
variable {P : Program} {w : World} {K : PySem.W.Frag} {mg : Str → Option Value} {base : Heap}
theorem ok_TooLarge_init (T : TX K mg) : FnOk P w K mg base CX0 1 T.f_TooLarge_init T.fd_TooLarge_init ["self", "limit"] (sp_exi T.C_TooLarge "limit") := by
  refine T.F_TooLarge_init.ok sc_TooLarge_init (fun vs H Q E h => ?_) (fun cdv A outer s H vs Q E hr h => ?_)
  · obtain ⟨a, x, rfl, _⟩ := h
    rfl
  · obtain ⟨a, x, rfl, ha, k⟩ := h
    refine ⟨_, (pss_one (ps_ost (pv 0) (pv 1))), ?_⟩
    exact ⟨_, rfl, _, rfl, a, _, rfl, T.ox_TooLarge, T.n_TooLarge_limit, .inl ⟨ha, fun dx n ne => k dx n ne⟩⟩
end

section
variable {P : Program} {w : World} {K : PySem.W.Frag} {mg : Str → Option Value} {base : Heap}
/-- whether the value is an instance of the class C -/
def InsB (K : PySem.W.Frag) (C : Addr) (H : Hp) (x : V) (b : Bool) : Prop := ∃ ty, TyX K H x ty ∧ PySem.W.kitOne K ty (.ref C) = some b
/-- what a def raises: an exception of the class CE with one field -/
def Rai (E : XK) (H : Hp) (CE : Addr) (f : Str) (v : V) : Prop := ∀ (dd : Addr) (H2 : Hp), Ex H H2 → H2 dd = some (.xd [(f, v)]) → E (.ref CE) (some dd) H2
theorem Rai.mono {E : XK} {H H2 : Hp} {CE : Addr} {f : Str} {v : V} (h : Rai E H CE f v) (e : Ex H H2) : Rai E H2 CE f v := fun dd H3 e3 hd => h dd H3 (ext e e3) hd
def spX_require_table (K : PySem.W.Frag) (C CE : Addr) : Sp := fun vs H Q E => ∃ (x : V) (b : Bool), vs = [x] ∧ InsB K C H x b ∧ (b = true → Q .non H) ∧ (b = false → Rai E H CE "rings" x)
theorem okX_require_table (T : TX K mg) : FnOk P w K mg base (L2.CX P w) 5 T.f_require_table T.fd_require_table ["table"] (spX_require_table K T.C_Table T.C_InvalidTable) := by
  refine T.F_require_table.okX sc_require_table (fun vs H Q E h => ?_) (fun cdv A outer s H vs Q E hr h => ?_)
  · obtain ⟨x, b, rfl, _⟩ := h
    rfl
  · obtain ⟨x, b, rfl, ⟨ty, hty, hk⟩, kQ, kE⟩ := h
    refine ⟨_, (pss_one (ps_if (pt_not (pt_val (pe_callB call_isi (by rfl) T.z_isinstance (by decide +kernel) (pa_cons (pv 0) (pa_cons (pe_glob (v := .ref T.C_Table) rfl T.m_Table rfl) pa_nil))))) (pss_one (ps_raise rfl (takes_of rfl rfl rfl rfl) (pmk_oex T.ox_InvalidTable T.i_InvalidTable T.ti_InvalidTable (ok_InvalidTable_init T) (hr.mono (by decide)) T.b_InvalidTable_init .nil pass0 rfl T.m_InvalidTable (pa_cons (pv 0) pa_nil)))) pss_nil)), ?_⟩
    refine ⟨_, rfl, _, _, _, _, b, rfl, .own _, hty, hk, _, rfl, ?_⟩
    cases b with
    | true => exact itf rfl (kQ rfl)
    | false =>
      refine itt rfl ?_
      refine ⟨_, rfl, by show 1 ≤ 1000; decide, fun ea na => ?_⟩
      exact exc_made na fun dd H4 e4 hd => kE rfl dd H4 e4 hd
def spX_require_seat (K : PySem.W.Frag) (C CE : Addr) : Sp := fun vs H Q E => ∃ (a : Addr) (x : V) (ns : List Int) (ot : Option (List (Option Int))), vs = [.ref a, x] ∧ TabAt C H a ns ∧ ns.length ≤ 4 ∧ TupA K H x ot ∧ (isSeatO ns ot = true → ∀ H2, Ex H H2 → Q .non H2) ∧ (isSeatO ns ot = false → Rai E H CE "seat" x)
theorem okX_require_seat (T : TX K mg) : FnOk P w K mg base (L2.CX P w) 4 T.f_require_seat T.fd_require_seat ["table", "seat"] (spX_require_seat K T.C_Table T.C_InvalidSeat) := by
  refine T.F_require_seat.okX sc_require_seat (fun vs H Q E h => ?_) (fun cdv A outer s H vs Q E hr h => ?_)
  · obtain ⟨a, x, ns, ot, rfl, _⟩ := h
    rfl
  · obtain ⟨a, x, ns, ot, rfl, tab, l4, hx, kQ, kE⟩ := h
    obtain ⟨dx, t, h1, h2⟩ := id tab
    refine ⟨_, (pss_one (ps_if (pt_not (pt_val (pe_meth (pv 0) T.cl_Table T.me_Table_is_seat (ok_Table_is_seat T) hr T.b_Table_is_seat .nil pass0 (pa_cons (pv 1) pa_nil)))) (pss_one (ps_raise rfl (takes_of rfl rfl rfl rfl) (pmk_oex T.ox_InvalidSeat T.i_InvalidSeat T.ti_InvalidSeat (ok_InvalidSeat_init T) (hr.mono (by decide)) T.b_InvalidSeat_init .nil pass0 rfl T.m_InvalidSeat (pa_cons (pv 1) pa_nil)))) pss_nil)), ?_⟩
    refine ⟨_, rfl, a, dx, _, rfl, h1, rfl, _, rfl, a, x, ns, ot, rfl, tab, l4, hx, fun H2 e2 => ?_⟩
    cases is : isSeatO ns ot with
    | true => exact ⟨_, rfl, itf rfl (kQ is H2 e2)⟩
    | false =>
      refine ⟨_, rfl, itt rfl ?_⟩
      refine ⟨_, rfl, by show 1 ≤ 1000; decide, fun ea na => ?_⟩
      exact exc_made na fun dd H4 e4 hd => kE is dd H4 (ext e2 e4) hd
def spX_require_targets (K : PySem.W.Frag) (C CE : Addr) : Sp := fun vs H Q E => ∃ (B : Addr → Prop) (a : Addr) (x : V) (ns : List Int) (od : Option (List PyData)), vs = [.ref a, x] ∧ TabAt C H a ns ∧ ns.length ≤ 4 ∧ TgtAt K B H x od ∧ (∀ ds, od = some ds → ds.length ≤ 1000 ∧ ∀ d ∈ ds, ShortT d) ∧
  (tgtDue ns od = none → ∀ H2, Ex H H2 → Q .non H2) ∧ (∀ i, tgtDue ns od = some i → Rai E H CE "index" (.int i))
theorem okX_require_targets (T : TX K mg) : FnOk P w K mg base (L2.CX P w) 4 T.f_require_targets T.fd_require_targets ["table", "targets"] (spX_require_targets K T.C_Table T.C_InvalidTargets) := by
  refine T.F_require_targets.okX sc_require_targets (fun vs H Q E h => ?_) (fun cdv A outer s H vs Q E hr h => ?_)
  · obtain ⟨B, a, x, ns, od, rfl, _⟩ := h
    rfl
  · obtain ⟨B, a, x, ns, od, rfl, tab, l4, hx, bd, kQ, kE⟩ := h
    refine ⟨_, (pss_cons (ps_if (PW.pt (pw_or (pt_not (pt_val (pe_callB call_isiT (by rfl) T.z_isinstance (by decide +kernel) (pa_cons (pv 1) (pa_cons (pe_tup (pa_cons (pe_bltn (v := .ty "list") rfl T.z_list (by decide +kernel) rfl) (pa_cons (pe_bltn (v := .ty "tuple") rfl T.z_tuple (by decide +kernel) rfl) pa_nil))) pa_nil))))) (pw_or1 (pt_cmpR op_eq (pe_callB call_len_seq (by rfl) T.z_len (by decide +kernel) (pa_cons (pv 1) pa_nil)) pe_int (nomark _))))) (pss_one (ps_raise rfl (takes_of rfl rfl rfl rfl) (pmk_oex T.ox_InvalidTargets T.i_InvalidTargets T.ti_InvalidTargets (ok_InvalidTargets_init T) (hr.mono (by decide)) T.b_InvalidTargets_init .nil pass0 rfl T.m_InvalidTargets (pa_cons (pe_un un_neg pe_int) pa_nil)))) pss_nil) (pss_cons (ps_set (i := 2) sc_require_targets.nd rfl (Or.inl rfl) pe_dnewT) (pss_one (ps_for (passes_of rfl) rfl (CE.pi_e rfl T.z_enumerate (pa_cons (pv 1) pa_nil)) (pg_tup rfl (pgs_cons (pg_name (i := 3) sc_require_targets.nd rfl (Or.inl rfl)) (pgs_cons (pg_name (i := 4) sc_require_targets.nd rfl (Or.inl rfl)) pgs_nil))) (pss_cons (ps_if (PW.pt (pw_or (pt_not (pt_val (pe_meth (pv 0) T.cl_Table T.me_Table_is_seat (ok_Table_is_seat T) hr T.b_Table_is_seat .nil pass0 (pa_cons (pv 4) pa_nil)))) (pw_or1 (pt_cmp (pc_din (hu_of hr) (pv 4) (pv 2)))))) (pss_one (ps_raise rfl (takes_of rfl rfl rfl rfl) (pmk_oex T.ox_InvalidTargets T.i_InvalidTargets T.ti_InvalidTargets (ok_InvalidTargets_init T) (hr.mono (by decide)) T.b_InvalidTargets_init .nil pass0 rfl T.m_InvalidTargets (pa_cons (pv 3) pa_nil)))) pss_nil) (pss_one (ps_dput (hu_of hr) (pv 2) (pv 4) (pv 3) (by rfl)))))))), ?_⟩
    (repeat (first | refine ⟨rfl, ?_⟩ | refine ⟨_, rfl, ?_⟩ | refine ⟨_, _, rfl, rfl, ?_⟩ | refine ⟨_, _, rfl, ?_⟩ | refine ⟨slen rfl, ?_⟩ | refine ⟨⟨by decide, by decide +kernel⟩, ?_⟩ | refine ⟨⟨by decide, by decide, by decide⟩, ?_⟩ | refine ⟨(by show (0 : Int) < _; first | decide | assumption | omega), ?_⟩ | refine ⟨mul_ok (by first | exact .inr (by decide) | exact .inl (by decide)), ?_⟩))
    (intro y ny; generalize hGy : upd _ y _ = H1; have eH1 := exG hGy ny; have hy := atG hGy; clear hGy)
    have hx1 := hx.mono eH1
    cases od with
    | none =>
      obtain ⟨ty, hty, hk⟩ := NoSeq.ty (K := K) hx1
      refine ⟨_, y, _, _, _, false, rfl, hy, .cons (.ty _) (.cons (.ty _) .nil), hty, hk, _, rfl, itt rfl ?_⟩
      refine ⟨_, rfl, by show 1 ≤ 1000; decide, fun ea na => ?_⟩
      exact exc_made na fun dd H4 e4 hd => kE (-1) rfl dd H4 (ext eH1 e4) hd
    | some ds =>
      obtain ⟨lb, sb⟩ := bd ds rfl
      obtain ⟨⟨b, q⟩, xs, rfl, q1, all⟩ := hx1
      have lxs := all.len
      refine ⟨_, y, _, _, _, true, rfl, hy, .cons (.ty _) (.cons (.ty _) .nil), q1.ty, kit_seq b, _, rfl, itf rfl ?_⟩
      refine ⟨_, rfl, q, _, rfl, sq_or q1, rfl, _, rfl, ?_⟩
      by_cases c0 : ds = []
      · refine itt (by rw [dec_int, lxs, c0]; rfl) ?_
        refine ⟨_, rfl, by show 1 ≤ 1000; decide, fun ea na => ?_⟩
        exact exc_made na fun dd H4 e4 hd => kE (-1) (by show (if ds = [] then some (-1) else _) = _; rw [if_pos c0]) dd H4 (ext eH1 e4) hd
      refine itf (by rw [dec_int, lxs]; simp; exact c0) ?_
      have eD : tgtDue ns (some ds) = goT ns ds [] := if_neg c0
      rw [eD] at kQ kE
      dsimp only [tNext]
      (intro d nd; generalize hGd : upd _ d _ = H2; have eH2 := exG hGd nd; have hd := atG hGd; clear hGd)
      have e2 : Ex H H2 := ext eH1 eH2
      have nd0 : H d = none := Evl.fresh_back eH1 nd
      have all2 := all.mono eH2
      have q2 := q1.mono eH2
      dsimp only [gName]
      refine ⟨_, rfl, (b, q), rfl, ⟨_, q2.sq⟩, ?_⟩
      refine for_it (CE.walk_e (xs := xs)) (fun i σ H3 => ∃ (y3 y4 : Option V) (kvs : List (List Key × V)) (seen : List (List Int)), σ = [some (.ref a), some (.ref q), some (.ref d), y3, y4] ∧ Ex H H3 ∧ SqH H3 (b, q) xs ∧ DqAll B H3 xs ds ∧ H3 d = some (.dT kvs) ∧ kvs.length = i ∧ seen.length = i ∧ (∀ ts : List Int, (valV kvs (kI ts)).isSome = decide (ts ∈ seen)) ∧ goT ns ds [] = goT ns (ds.drop i) seen) ⟨_, _, [], [], rfl, e2, q2, all2, hd, rfl, rfl, (fun t => by simp [valV]), rfl⟩ (fun i σ H2 _ ⟨_, _, _, _, _, _, e, _⟩ => e.sq) ?_ ?_
      · rintro i x σ H3 H4 hi ⟨y3, y4, kvs, seen, rfl, e3, sq3, all3, hd3, lk, ls, hv, hgo⟩ ⟨Ta, x1, x2, rfl, hT, rfl, hx1, hx2⟩
        cases hx1
        obtain ⟨e, he, qe0⟩ := all3.get hx2
        rw [goT_step he] at hgo
        generalize hG : upd H3 Ta _ = Hz
        have ez := exG hG hT
        have hTa := atG hG
        clear hG
        have Ez := ext e3 ez
        have qe := qe0.mono ez
        have tabz := tab.mono Ez
        obtain ⟨dx, t, g1, g2⟩ := id tabz
        have me := List.mem_of_getElem? he
        refine ⟨Ta, _, rfl, SqT.of hTa, rfl, _, _, rfl, _, _, rfl, rfl, ?_⟩
        refine ⟨_, rfl, a, dx, _, rfl, g1, rfl, _, rfl, a, _, ns, _, rfl, tabz, l4, qe.tA (sb e me), fun H5 e5 => ?_⟩
        have E5 := ext Ez e5
        have bad : ¬ (isSeatO ns (oT e) = true ∧ intsD e ∉ seen) → ∀ dd H6, Ex H5 H6 → H6 dd = some (.xd [("index", .int (i : Int))]) → E (.ref T.C_InvalidTargets) (some dd) H6 := fun z dd H6 e6 h6 => by
          rw [if_neg z] at hgo
          exact kE _ hgo dd H6 (ext E5 e6) (by rw [ls]; exact h6)
        cases is : isSeatO ns (oT e) with
        | false =>
          refine ⟨_, rfl, itt rfl ?_⟩
          refine ⟨_, rfl, by show 1 ≤ 1000; decide, fun ea na => ?_⟩
          exact exc_made na fun dd H6 e6 h6 => bad (fun z => by rw [is] at z; cases z.1) dd H6 e6 h6
        | true =>
        refine ⟨_, rfl, itf rfl ?_⟩
        obtain ⟨p, rfl, sp⟩ := seat_ints is
        rw [intsD_is] at hgo bad
        obtain ⟨r, xr, rfl, hre, hall⟩ := (qe.mono e5).tupA (ds := p.map PyData.int) rfl
        have hr5 : H5 r = some (.tup ((kI p).map kV)) := by
          obtain ⟨is2, a1, a2⟩ := dq_ints hall fun w hw => by
            obtain ⟨i, _, rfl⟩ := List.mem_map.mp hw
            exact ⟨i, rfl⟩
          have a3 : is2 = p := by
            have := congrArg (List.filterMap intD) a1
            rw [fm_ints, fm_ints] at this
            exact this.symm
          rw [kI_map, hre, a2, a3]
        have hd5 := e5 _ _ (ez _ _ hd3)
        refine ⟨_, rfl, _, rfl, d, _, rfl, DGet.t hd5 hr5, _, rfl, ?_⟩
        by_cases ms : p ∈ seen
        · refine itt (by rw [hv]; exact decide_eq_true ms) ?_
          refine ⟨_, rfl, by show 1 ≤ 1000; decide, fun ea na => ?_⟩
          exact exc_made na fun dd H6 e6 h6 => bad (fun z => z.2 ms) dd H6 e6 h6
        have hno : valV kvs (kI p) = none := by
          have := hv p
          rw [decide_eq_false ms] at this
          exact Option.not_isSome_iff_eq_none.mp (by rw [this]; simp)
        refine itf (by rw [hv]; exact decide_eq_false ms) ?_
        dsimp only [tNext]
        refine ⟨_, rfl, _, rfl, _, rfl, d, _, rfl, DPut.t hd5 hr5 ?_, ?_⟩
        · rw [lk]
          exact Nat.lt_of_lt_of_le (show i < 1000 by have := (List.getElem?_eq_some_iff.mp he).1; omega) (by decide)
        · have hnd : ∀ c o, H5 c = some o → c ≠ d → upd H5 d (.dT (putK kvs (kI p) (.int (i : Nat)))) c = some o := fun c o z n => by
            rw [upd_ne n]
            exact z
          have all5 := (all3.mono ez).mono e5
          refine ⟨_, _, putK kvs (kI p) (.int (i : Nat)), seen ++ [p], rfl, ?_, ?_, all5.to (fun c xs b h => ⟨hnd _ _ h (fun z => by rw [z, hd5] at h; cases h), b⟩) (fun c xs h => hnd _ _ h (fun z => by rw [z, hd5] at h; cases h)) (fun c h => hnd _ _ h (fun z => by rw [z, hd5] at h; cases h)), upd_same, by rw [put_len hno, lk], by rw [List.length_append, ls]; rfl, fun us => ?_, ?_⟩
          · intro c o z
            rw [upd_ne (ne_of_none z nd0)]
            exact e5 c o (Ez c o z)
          · have sq5 := (sq3.mono ez).mono e5
            cases b
            · have sq6 : H5 q = some (.lst xs) := sq5
              exact hnd _ _ sq6 (fun z => by have z2 : q = d := z; rw [z2, hd5] at sq6; cases sq6)
            · have sq6 : H5 q = some (.tup xs) := sq5
              exact hnd _ _ sq6 (fun z => by have z2 : q = d := z; rw [z2, hd5] at sq6; cases sq6)
          · rw [valV_put]
            by_cases e9 : us = p
            · rw [if_pos (by rw [e9])]
              rw [e9]
              simp
            · rw [if_neg (fun z => e9 (kI_inj z)), hv, Bool.eq_iff_iff, decide_eq_true_iff, decide_eq_true_iff, List.mem_append, List.mem_singleton]
              exact ⟨.inl, fun h => h.resolve_right e9⟩
          · rw [hgo, if_pos ⟨is, ms⟩]
      · rintro σ H3 ⟨y3, y4, kvs, seen, rfl, e3, _, _, _, _, _, _, hgo⟩
        refine kQ ?_ _ e3
        rw [hgo, lxs, List.drop_length]
        rfl
end

/-- the text in data -/
def strD : PyData → Option Str
  | .str z => some z
  | _ => none
theorem Dq.strA {K : PySem.W.Frag} {B : Addr → Prop} {H : Hp} {v : V} {d : PyData} (h : Dq B H v d) : StrA K H v (strD d) := by
  cases h with
  | str x => exact rfl
  | int i => exact ⟨_, .base (.int i), kit_ty (r := false) (by decide +kernel)⟩
  | non => exact ⟨_, .base .non, kit_ty (r := false) (by decide +kernel)⟩
  | bl b => exact ⟨_, .base (.bl b), kit_ty (r := false) (by decide +kernel)⟩
  | lst h _ _ => exact ⟨_, .base (.lst h), kit_ty (r := false) (by decide +kernel)⟩
  | tup h _ => exact ⟨_, .base (.tup h), kit_ty (r := false) (by decide +kernel)⟩
  | emp h => exact ⟨_, .base (.dK h), kit_ty (r := false) (by decide +kernel)⟩
/-- whether data is a move -/
def movO (ns : List Int) (d : PyData) : Bool := match tupD d with
  | some [c, z] => isCallO ns (oT c) && isDirO (strD z)
  | _ => false
/-- the parts of a tuple are short tuples -/
def ShortM (d : PyData) : Prop := ∀ es, tupD d = some es → ∀ e ∈ es, ShortT e
def goM (ns : List Int) : List PyData → Nat → Option Int
  | [], _ => none
  | d :: ds, i => if movO ns d = true then goM ns ds (i + 1) else some (i : Int)
def movDue (ns : List Int) : Option (List PyData) → Option Int
  | none => some (-1)
  | some ds => goM ns ds 0
theorem goM_step {ns : List Int} {ds : List PyData} {d : PyData} {i : Nat} (h : ds[i]? = some d) : goM ns (ds.drop i) i = if movO ns d = true then goM ns (ds.drop (i + 1)) (i + 1) else some (i : Int) := by
  have il := (List.getElem?_eq_some_iff.mp h).1
  have e : ds.drop i = d :: ds.drop (i + 1) := by
    rw [List.drop_eq_getElem_cons il]
    rw [List.getElem?_eq_getElem il] at h
    rw [Option.some.inj h]
  rw [e]
  rfl
theorem mov_no {ns : List Int} {d : PyData} {es : List PyData} (e : tupD d = some es) (n : es.length ≠ 2) : movO ns d = false := by
  unfold movO
  rw [e]
  match es, n with
  | [], _ => rfl
  | [_], _ => rfl
  | [_, _], n => exact absurd rfl n
  | _ :: _ :: _ :: _, _ => rfl
theorem mov_not {ns : List Int} {d : PyData} (e : tupD d = none) : movO ns d = false := by
  unfold movO
  rw [e]
section
variable {P : Program} {w : World} {K : PySem.W.Frag} {mg : Str → Option Value} {base : Heap}
def spX_is_move (K : PySem.W.Frag) (C : Addr) : Sp := fun vs H Q _ => ∃ (B : Addr → Prop) (a : Addr) (x : V) (ns : List Int) (d : PyData), vs = [.ref a, x] ∧ TabAt C H a ns ∧ ns.length ≤ 4 ∧ Dq B H x d ∧ ShortM d ∧ ∀ H2, Ex H H2 → Q (.bl (movO ns d)) H2
theorem okX_is_move (T : TX K mg) : FnOk P w K mg base (L2.CX P w) 3 T.f_is_move T.fd_is_move ["table", "value"] (spX_is_move K T.C_Table) := by
  refine T.F_is_move.okX sc_is_move (fun vs H Q E h => ?_) (fun cdv A outer s H vs Q E hr h => ?_)
  · obtain ⟨B, a, x, ns, d, rfl, _⟩ := h
    rfl
  · obtain ⟨B, a, x, ns, d, rfl, tab, l4, dq, sm, k⟩ := h
    refine ⟨_, (pss_cons (ps_if (PW.pt (pw_or (pt_not (pt_val (pe_callB call_isi (by rfl) T.z_isinstance (by decide +kernel) (pa_cons (pv 1) (pa_cons (pe_bltn (v := .ty "tuple") rfl T.z_tuple (by decide +kernel) rfl) pa_nil))))) (pw_or1 (pt_cmpR op_ne (pe_callB call_len_seq (by rfl) T.z_len (by decide +kernel) (pa_cons (pv 1) pa_nil)) pe_int (nomark _))))) (pss_one (ps_ret pe_bl)) pss_nil) (pss_one (ps_ret (pe_and (pe_meth (pv 0) T.cl_Table T.me_Table_is_call (ok_Table_is_call T) hr T.b_Table_is_call .nil pass0 (pa_cons (pe_ix ix_tup (pv 1) pe_int (fun _ _ => rfl)) pa_nil)) (pe_one (pe_call (ok_is_direction T) (hr.mono (by decide)) rfl T.m_is_direction T.F_is_direction.kp T.b_is_direction .nil pass0 (pa_cons (pe_ix ix_tup (pv 1) pe_int (fun _ _ => rfl)) pa_nil))))))), ?_⟩
    obtain ⟨ty, hty, hk⟩ := dq.isT (K := K)
    cases td : tupD d with
    | none =>
      rw [td] at hk
      refine ⟨_, rfl, _, _, _, _, false, rfl, .ty _, hty, hk, _, rfl, ?_⟩
      rw [mov_not td] at k
      refine iteT ?_
      exact itt rfl (k _ exr)
    | some es =>
      rw [td] at hk
      obtain ⟨r, xs, rfl, hr0, all⟩ := dq.tupA td
      have lxs := all.len
      refine ⟨_, rfl, _, _, _, _, true, rfl, .ty _, hty, hk, _, rfl, iteF ?_⟩
      refine ⟨_, rfl, r, _, rfl, .inr (SqT.of hr0), rfl, _, rfl, ?_⟩
      by_cases l2 : es.length = 2
      rotate_left
      · rw [mov_no td l2] at k
        refine itt (by rw [dec_int, lxs]; simp; omega) ?_
        exact k _ exr
      refine itf (by rw [dec_int, lxs, l2]; rfl) ?_
      dsimp only [tNext]
      obtain ⟨c, z, rfl⟩ : ∃ c z, es = [c, z] := by
        match es, l2 with
        | [c, z], _ => exact ⟨c, z, rfl⟩
      obtain ⟨vc, vz, rfl⟩ : ∃ c z, xs = [c, z] := by
        match xs, lxs with
        | [c, z], _ => exact ⟨c, z, rfl⟩
      obtain ⟨d1, e1, q1⟩ := all.get (j := 0) rfl
      obtain ⟨d2, e2, q2⟩ := all.get (j := 1) rfl
      obtain rfl : c = d1 := Option.some.inj e1
      obtain rfl : z = d2 := Option.some.inj e2
      have em : movO ns d = (isCallO ns (oT c) && isDirO (strD z)) := by
        unfold movO
        rw [td]
      rw [em] at k
      obtain ⟨dx, t, g1, g2⟩ := id tab
      refine ⟨_, rfl, a, dx, _, rfl, g1, rfl, _, rfl, r, _, _, _, rfl, rfl, SqT.of hr0, rfl, a, _, ns, _, rfl, tab, q1.tA (sm _ td c (by simp)), fun H1 e1 => ?_⟩
      cases ic : isCallO ns (oT c) with
      | false =>
        rw [ic] at k
        exact ⟨_, rfl, k _ e1⟩
      | true =>
        rw [ic] at k
        refine ⟨_, rfl, ?_⟩
        refine ⟨_, rfl, r, _, _, _, rfl, rfl, SqT.of (e1 _ _ hr0), rfl, _, strD z, rfl, (q2.mono e1).strA, fun H2 e2 => ?_⟩
        exact k _ (ext e1 e2)
def spX_require_moves (K : PySem.W.Frag) (C CE : Addr) : Sp := fun vs H Q E => ∃ (B : Addr → Prop) (a : Addr) (x : V) (ns : List Int) (od : Option (List PyData)), vs = [.ref a, x] ∧ TabAt C H a ns ∧ ns.length ≤ 4 ∧ TgtAt K B H x od ∧ (∀ ds, od = some ds → ∀ d ∈ ds, ShortM d) ∧
  (movDue ns od = none → ∀ H2, Ex H H2 → Q .non H2) ∧ (∀ i, movDue ns od = some i → Rai E H CE "index" (.int i))
theorem okX_require_moves (T : TX K mg) : FnOk P w K mg base (L2.CX P w) 4 T.f_require_moves T.fd_require_moves ["table", "moves"] (spX_require_moves K T.C_Table T.C_InvalidMoves) := by
  refine T.F_require_moves.okX sc_require_moves (fun vs H Q E h => ?_) (fun cdv A outer s H vs Q E hr h => ?_)
  · obtain ⟨B, a, x, ns, od, rfl, _⟩ := h
    rfl
  · obtain ⟨B, a, x, ns, od, rfl, tab, l4, hx, sm, kQ, kE⟩ := h
    refine ⟨_, (pss_cons (ps_if (pt_not (pt_val (pe_callB call_isiT (by rfl) T.z_isinstance (by decide +kernel) (pa_cons (pv 1) (pa_cons (pe_tup (pa_cons (pe_bltn (v := .ty "list") rfl T.z_list (by decide +kernel) rfl) (pa_cons (pe_bltn (v := .ty "tuple") rfl T.z_tuple (by decide +kernel) rfl) pa_nil))) pa_nil))))) (pss_one (ps_raise rfl (takes_of rfl rfl rfl rfl) (pmk_oex T.ox_InvalidMoves T.i_InvalidMoves T.ti_InvalidMoves (ok_InvalidMoves_init T) (hr.mono (by decide)) T.b_InvalidMoves_init .nil pass0 rfl T.m_InvalidMoves (pa_cons (pe_un un_neg pe_int) pa_nil)))) pss_nil) (pss_one (ps_for (passes_of rfl) rfl (CE.pi_e rfl T.z_enumerate (pa_cons (pv 1) pa_nil)) (pg_tup rfl (pgs_cons (pg_name (i := 2) sc_require_moves.nd rfl (Or.inl rfl)) (pgs_cons (pg_name (i := 3) sc_require_moves.nd rfl (Or.inl rfl)) pgs_nil))) (pss_one (ps_if (pt_not (pt_val (pe_call (okX_is_move T) hr rfl T.m_is_move T.F_is_move.kp T.b_is_move .nil (passes_call (takes_of rfl rfl rfl rfl) (fun _ _ _ _ h => h)) (pa_cons (pv 0) (pa_cons (pv 3) pa_nil))))) (pss_one (ps_raise rfl (takes_of rfl rfl rfl rfl) (pmk_oex T.ox_InvalidMoves T.i_InvalidMoves T.ti_InvalidMoves (ok_InvalidMoves_init T) (hr.mono (by decide)) T.b_InvalidMoves_init .nil pass0 rfl T.m_InvalidMoves (pa_cons (pv 2) pa_nil)))) pss_nil))))), ?_⟩
    (repeat (first | refine ⟨rfl, ?_⟩ | refine ⟨_, rfl, ?_⟩ | refine ⟨_, _, rfl, rfl, ?_⟩ | refine ⟨_, _, rfl, ?_⟩ | refine ⟨slen rfl, ?_⟩ | refine ⟨⟨by decide, by decide +kernel⟩, ?_⟩ | refine ⟨⟨by decide, by decide, by decide⟩, ?_⟩ | refine ⟨(by show (0 : Int) < _; first | decide | assumption | omega), ?_⟩ | refine ⟨mul_ok (by first | exact .inr (by decide) | exact .inl (by decide)), ?_⟩))
    (intro y ny; generalize hGy : upd _ y _ = H1; have eH1 := exG hGy ny; have hy := atG hGy; clear hGy)
    have hx1 := hx.mono eH1
    cases od with
    | none =>
      obtain ⟨ty, hty, hk⟩ := NoSeq.ty (K := K) hx1
      refine ⟨_, y, _, _, _, false, rfl, hy, .cons (.ty _) (.cons (.ty _) .nil), hty, hk, _, rfl, itt rfl ?_⟩
      refine ⟨_, rfl, by show 1 ≤ 1000; decide, fun ea na => ?_⟩
      exact exc_made na fun dd H4 e4 hd => kE (-1) rfl dd H4 (ext eH1 e4) hd
    | some ds =>
      have smd := sm ds rfl
      obtain ⟨⟨b, q⟩, xs, rfl, q1, all⟩ := hx1
      have lxs := all.len
      refine ⟨_, y, _, _, _, true, rfl, hy, .cons (.ty _) (.cons (.ty _) .nil), q1.ty, kit_seq b, _, rfl, itf rfl ?_⟩
      dsimp only [tNext]
      refine ⟨_, rfl, (b, q), rfl, ⟨_, q1.sq⟩, ?_⟩
      refine for_it (CE.walk_e (xs := xs)) (fun i σ H3 => (∃ (y2 y3 : Option V), σ = [some (.ref a), some (.ref q), y2, y3]) ∧ Ex H1 H3 ∧ goM ns ds 0 = goM ns (ds.drop i) i) ⟨⟨_, _, rfl⟩, exr, rfl⟩ (fun i σ H2 _ ⟨_, e, _⟩ => (q1.mono e).sq) ?_ ?_
      · rintro i x σ H3 H4 hi ⟨⟨y2, y3, rfl⟩, e3, hgo⟩ ⟨Ta, x1, x2, rfl, hT, rfl, hx1, hx2⟩
        cases hx1
        obtain ⟨e, he, qe0⟩ := (all.mono e3).get hx2
        rw [goM_step he] at hgo
        generalize hG : upd H3 Ta _ = Hz
        have ez := exG hG hT
        have hTa := atG hG
        clear hG
        have Ez := ext (ext eH1 e3) ez
        refine ⟨Ta, _, rfl, SqT.of hTa, rfl, _, _, rfl, _, _, rfl, rfl, ?_⟩
        refine ⟨_, rfl, _, rfl, B, a, _, ns, e, rfl, tab.mono Ez, l4, qe0.mono ez, smd e (List.mem_of_getElem? he), fun H5 e5 => ?_⟩
        cases mo : movO ns e with
        | true =>
          rw [if_pos mo] at hgo
          exact ⟨_, rfl, itf rfl ⟨⟨_, _, rfl⟩, ext (ext e3 ez) e5, hgo⟩⟩
        | false =>
          rw [if_neg (by rw [mo]; simp)] at hgo
          refine ⟨_, rfl, itt rfl ?_⟩
          refine ⟨_, rfl, by show 1 ≤ 1000; decide, fun ea na => ?_⟩
          exact exc_made na fun dd H6 e6 h6 => kE _ hgo dd H6 (ext (ext Ez e5) e6) h6
      · rintro σ H3 ⟨⟨y2, y3, rfl⟩, e3, hgo⟩
        refine kQ ?_ _ (ext eH1 e3)
        show goM ns ds 0 = none
        rw [hgo, lxs, List.drop_length]
        rfl
end

def prodL (ns : List Int) : Int := ns.foldl (fun p n => p * n) 1
theorem prodS_snoc (ns : List Int) (n : Int) : prodL (ns ++ [n]) = prodL ns * n := by
  unfold prodL
  rw [List.foldl_append]
  rfl
/-- the seats can be counted -/
def CntOk (ns : List Int) : Prop := ∀ i n, ns[i]? = some n → IntMulOk (prodL (ns.take i)) n
section
variable {P : Program} {w : World} {K : PySem.W.Frag} {mg : Str → Option Value} {base : Heap}
def sp_Table_count (C : Addr) : Sp := fun vs H Q _ => ∃ (a : Addr) (ns : List Int), vs = [.ref a] ∧ TabAt C H a ns ∧ CntOk ns ∧ Q (.int (prodL ns)) H
theorem ok_Table_count (T : TX K mg) : FnOk P w K mg base CX0 1 T.f_Table_count T.fd_Table_count ["self"] (sp_Table_count T.C_Table) := by
  refine T.F_Table_count.ok sc_Table_count (fun vs H Q E h => ?_) (fun cdv A outer s H vs Q E hr h => ?_)
  · obtain ⟨a, ns, rfl, _⟩ := h
    rfl
  · obtain ⟨a, ns, rfl, ⟨dx, t, h1, h2⟩, ok, k⟩ := h
    refine ⟨_, (pss_cons (ps_set (i := 1) sc_Table_count.nd rfl (Or.inl rfl) pe_int) (pss_cons (ps_for PassesOwn.never rfl (pi_tup (pe_fld (pv 0) rfl)) (pg_name (i := 2) sc_Table_count.nd rfl (Or.inl rfl)) (pss_one (ps_set (i := 1) sc_Table_count.nd rfl (Or.inl rfl) (pe_op op_mulI (pv 1) (pv 2))))) (pss_one (ps_ret (pv 1))))), ?_⟩
    refine ⟨_, rfl, a, _, dx, _, _, rfl, h1, T.cl_Table, T.n_Table_rings, rfl, t, rfl, ⟨_, SqT.of h2⟩, ?_⟩
    refine for_it (walk_tup (xs := ns.map V.int)) (fun i σ H2 => ∃ y : Option V, σ = [some (.ref a), some (.int (prodL (ns.take i))), y] ∧ H2 = H) ⟨none, rfl, rfl⟩ (fun i σ H2 _ ⟨_, _, e⟩ => by rw [e]; exact SqT.of h2) ?_ ?_
    · rintro i x σ H2 H3 hi ⟨y, rfl, rfl⟩ ⟨rfl, hx⟩
      obtain ⟨n, hn, rfl⟩ := map_get hx
      refine ⟨_, rfl, _, rfl, _, _, rfl, rfl, ok i n hn, some (.int n), ?_, rfl⟩
      rw [take_more hn, prodS_snoc]
      rfl
    · rintro σ H2 ⟨y, rfl, rfl⟩
      rw [List.length_map, List.take_length]
      exact ⟨_, rfl, k⟩
def spX_require_small (C CE : Addr) : Sp := fun vs H Q E => ∃ (a : Addr) (ns : List Int), vs = [.ref a] ∧ TabAt C H a ns ∧ CntOk ns ∧ 300 < prodL ns ∧ Rai E H CE "limit" (.int 300)
theorem okX_require_small (T : TX K mg) : FnOk P w K mg base (L2.CX P w) 3 T.f_require_small T.fd_require_small ["table"] (spX_require_small T.C_Table T.C_TooLarge) := by
  refine T.F_require_small.okX sc_require_small (fun vs H Q E h => ?_) (fun cdv A outer s H vs Q E hr h => ?_)
  · obtain ⟨a, ns, rfl, _⟩ := h
    rfl
  · obtain ⟨a, ns, rfl, tab, ok, hB, kE⟩ := h
    obtain ⟨dx, t, h1, h2⟩ := id tab
    refine ⟨_, (pss_one (ps_if (pt_cmpR op_gt (pe_meth0 (pv 0) T.cl_Table T.me_Table_count (ok_Table_count T) (hr.mono (by decide)) T.b_Table_count .nil pass0) (pe_glob (v := .int 300) rfl T.c_SMALL ⟨_, rfl⟩) (nomark _)) (pss_one (ps_raise rfl (takes_of rfl rfl rfl rfl) (pmk_oex T.ox_TooLarge T.i_TooLarge T.ti_TooLarge (ok_TooLarge_init T) (hr.mono (by decide)) T.b_TooLarge_init .nil pass0 rfl T.m_TooLarge (pa_cons (pe_glob (v := .int 300) rfl T.c_SMALL ⟨_, rfl⟩) pa_nil)))) pss_nil)), ?_⟩
    refine ⟨_, rfl, a, dx, _, rfl, h1, rfl, a, ns, rfl, tab, ok, ?_⟩
    refine ⟨_, _, rfl, rfl, _, rfl, itt (decide_eq_true (by show (300 : Int) < prodL ns; omega)) ?_⟩
    refine ⟨by show 1 ≤ 1000; decide, fun ea na => ?_⟩
    exact exc_made na fun dd H4 e4 hd => kE dd H4 e4 hd
end

/-! ### the order of the errors -/
def RTab (K : PySem.W.Frag) (C CT : Addr) (E : XK) (H : Hp) (x : V) (rest : Addr → List Int → Prop) : Prop := (InsB K C H x false ∧ Rai E H CT "rings" x) ∨ ∃ (a : Addr) (ns : List Int), x = .ref a ∧ TabAt C H a ns ∧ SzOk ns ∧ rest a ns
def RTgt (K : PySem.W.Frag) (CG : Addr) (E : XK) (H : Hp) (ns : List Int) (x : V) (rest : Prop) : Prop := ∃ (B : Addr → Prop) (od : Option (List PyData)), TgtAt K B H x od ∧ (∀ ds, od = some ds → ds.length ≤ 1000 ∧ ∀ d ∈ ds, ShortT d) ∧ ((∃ i, tgtDue ns od = some i ∧ Rai E H CG "index" (.int i)) ∨ (tgtDue ns od = none ∧ rest))
def RSeat (K : PySem.W.Frag) (CS : Addr) (E : XK) (H : Hp) (ns : List Int) (x : V) (rest : Prop) : Prop := ∃ ot : Option (List (Option Int)), TupA K H x ot ∧ ((isSeatO ns ot = false ∧ Rai E H CS "seat" x) ∨ (isSeatO ns ot = true ∧ rest))
def RMov (K : PySem.W.Frag) (CM : Addr) (E : XK) (H : Hp) (ns : List Int) (x : V) (rest : Prop) : Prop := ∃ (B : Addr → Prop) (od : Option (List PyData)), TgtAt K B H x od ∧ (∀ ds, od = some ds → ∀ d ∈ ds, ShortM d) ∧ ((∃ i, movDue ns od = some i ∧ Rai E H CM "index" (.int i)) ∨ (movDue ns od = none ∧ rest))
section
variable {K : PySem.W.Frag} {C CT CG CS CM a : Addr} {E : XK} {H : Hp} {Q : VK} {x : V} {ns : List Int}
theorem ins_tab (cl : Cls K C) (h1 : PySem.W.findIn K (.ref C) "__class__" = some (some (.builtin "object.__class__"))) (h2 : PySem.W.specialIn K (.builtin "object.__class__") "__get__" = some (some (.builtin "getset_descriptor.__get__"))) (h3 : PySem.W.takesIn K (.builtin "object.__class__") = some true) (h4 : PySem.W.mroIn K C (.type "object") = some true) (t : TabAt C H a ns) : InsB K C H (.ref a) true := by
  obtain ⟨dx, t, e1, e2⟩ := t
  exact ⟨_, .base (.ins e1 cl h1 h2 h3 h4), kit_self⟩
theorem InsB.mono {H1 : Hp} {b : Bool} (e : Ex H H1) (h : InsB K C H x b) : InsB K C H1 x b := by
  obtain ⟨ty, h1, h2⟩ := h
  exact ⟨ty, TyX.mono e h1, h2⟩
theorem rtab_use {rest : Addr → List Int → Prop} (h : RTab K C CT E H x rest) (cl : Cls K C) (h1 : PySem.W.findIn K (.ref C) "__class__" = some (some (.builtin "object.__class__"))) (h2 : PySem.W.specialIn K (.builtin "object.__class__") "__get__" = some (some (.builtin "getset_descriptor.__get__"))) (h3 : PySem.W.takesIn K (.builtin "object.__class__") = some true) (h4 : PySem.W.mroIn K C (.type "object") = some true)
    {H1 : Hp} (e1 : Ex H H1) (k : ∀ a ns, x = .ref a → TabAt C H a ns → SzOk ns → rest a ns → Q .non H1) : spX_require_table K C CT [x] H1 Q E := by
  rcases h with ⟨hb, r⟩ | ⟨a, ns, rfl, tab, ok, h⟩
  · exact ⟨x, false, rfl, hb.mono e1, (fun z => nomatch z), fun _ => r.mono e1⟩
  · exact ⟨_, true, rfl, (ins_tab cl h1 h2 h3 h4 tab).mono e1, (fun _ => k a ns rfl tab ok h), fun z => nomatch z⟩
theorem rtgt_use {rest : Prop} (h : RTgt K CG E H ns x rest) (tab : TabAt C H a ns) (ok : SzOk ns) {H1 : Hp} (e1 : Ex H H1) (k : rest → ∀ H2, Ex H1 H2 → Q .non H2) : spX_require_targets K C CG [.ref a, x] H1 Q E := by
  obtain ⟨B, od, hx, bd, h⟩ := h
  refine ⟨B, a, x, ns, od, rfl, tab.mono e1, ok.le, hx.mono e1, bd, fun z H2 e2 => ?_, fun i hi => ?_⟩
  · rcases h with ⟨i, hi, _⟩ | ⟨_, r⟩
    · rw [z] at hi
      cases hi
    · exact k r H2 e2
  · rcases h with ⟨j, hj, r⟩ | ⟨z, _⟩
    · obtain rfl := Option.some.inj (hi.symm.trans hj)
      exact r.mono e1
    · rw [z] at hi
      cases hi
theorem rmov_use {rest : Prop} (h : RMov K CM E H ns x rest) (tab : TabAt C H a ns) (ok : SzOk ns) {H1 : Hp} (e1 : Ex H H1) (k : rest → ∀ H2, Ex H1 H2 → Q .non H2) : spX_require_moves K C CM [.ref a, x] H1 Q E := by
  obtain ⟨B, od, hx, bd, h⟩ := h
  refine ⟨B, a, x, ns, od, rfl, tab.mono e1, ok.le, hx.mono e1, bd, fun z H2 e2 => ?_, fun i hi => ?_⟩
  · rcases h with ⟨i, hi, _⟩ | ⟨_, r⟩
    · rw [z] at hi
      cases hi
    · exact k r H2 e2
  · rcases h with ⟨j, hj, r⟩ | ⟨z, _⟩
    · obtain rfl := Option.some.inj (hi.symm.trans hj)
      exact r.mono e1
    · rw [z] at hi
      cases hi
theorem tupa_mono {H1 : Hp} {ot : Option (List (Option Int))} (e : Ex H H1) (h : TupA K H x ot) : TupA K H1 x ot := by
  cases ot with
  | none =>
    obtain ⟨ty, h1, h2⟩ := h
    exact ⟨ty, TyX.mono e h1, h2⟩
  | some os =>
    obtain ⟨v, xs, rfl, h1, h2, h3⟩ := h
    exact ⟨v, xs, rfl, e _ _ h1, h2, paired_mono (fun v a q => IsI.mono e q) h3⟩
theorem rseat_use {rest : Prop} (h : RSeat K CS E H ns x rest) (tab : TabAt C H a ns) (ok : SzOk ns) {H1 : Hp} (e1 : Ex H H1) (k : rest → ∀ H2, Ex H1 H2 → Q .non H2) : spX_require_seat K C CS [.ref a, x] H1 Q E := by
  obtain ⟨ot, hx, h⟩ := h
  refine ⟨a, x, ns, ot, rfl, tab.mono e1, ok.le, tupa_mono e1 hx, fun z H2 e2 => ?_, fun z => ?_⟩
  · rcases h with ⟨q, _⟩ | ⟨_, r⟩
    · rw [q] at z
      cases z
    · exact k r H2 e2
  · rcases h with ⟨_, r⟩ | ⟨q, _⟩
    · exact r.mono e1
    · rw [q] at z
      cases z
end

/-- arguments of a record that are all right -/
def RecVal (H : Hp) (ns : List Int) (g s m : V) : Prop := ∃ (q mq : Bool × Addr) (sa : Addr) (tss : List (List Int)) (st : List Int) (ms : List (List Int × Bool)), g = .ref q.2 ∧ s = .ref sa ∧ m = .ref mq.2 ∧ RowsQ H q tss ∧ H sa = some (.tup (st.map V.int)) ∧ SeatOk ns st ∧ MovQ H mq ms ∧ ms.length ≤ 100000 ∧ ∀ m ∈ ms, m.1.length = ns.length
/-- the error that is due first for the arguments of a record, or none -/
def RecX (K : PySem.W.Frag) (C CT CG CS CM : Addr) (E : XK) (H : Hp) (x g s m : V) (fin : Prop) : Prop := RTab K C CT E H x fun _ ns => RTgt K CG E H ns g (RSeat K CS E H ns s (RMov K CM E H ns m (RecVal H ns g s m ∧ fin)))
section
variable {P : Program} {w : World} {K : PySem.W.Frag} {mg : Str → Option Value} {base : Heap}
def spX_Record_init (K : PySem.W.Frag) (CR C CT CG CS CM : Addr) : Sp := fun vs H Q E => ∃ (p dx : Addr) (x g s m : V) (H0 : Hp), vs = [.ref p, x, g, s, m] ∧ H p = some (.ins CR dx []) ∧ H0 p = none ∧ Ex H0 H ∧ RecX K C CT CG CS CM E H0 x g s m (∀ H2, Ex H0 H2 → Q .non H2)
theorem okX_Record_init (T : TX K mg) : FnOk P w K mg base (L2.CX P w) 8 T.f_Record_init T.fd_Record_init ["self", "table", "targets", "seat", "moves"] (spX_Record_init K T.C_Record T.C_Table T.C_InvalidTable T.C_InvalidTargets T.C_InvalidSeat T.C_InvalidMoves) := by
  refine T.F_Record_init.okX sc_Record_init (fun vs H Q E h => ?_) (fun cdv A outer s H vs Q E hr h => ?_)
  · obtain ⟨p, dx, x, g, s, m, H0, rfl, _⟩ := h
    rfl
  · obtain ⟨p, dx, x, g, s, m, H0, rfl, hp, np, e0, h⟩ := h
    refine ⟨_, (pss_cons (ps_expr (pe_call (okX_require_table T) (hr.mono (by decide)) rfl T.m_require_table T.F_require_table.kp T.b_require_table .nil (passes_call (takes_of rfl rfl rfl rfl) (fun _ _ _ _ h => h)) (pa_cons (pv 1) pa_nil))) (pss_cons (ps_expr (pe_call (okX_require_targets T) (hr.mono (by decide)) rfl T.m_require_targets T.F_require_targets.kp T.b_require_targets .nil (passes_call (takes_of rfl rfl rfl rfl) (fun _ _ _ _ h => h)) (pa_cons (pv 1) (pa_cons (pv 2) pa_nil)))) (pss_cons (ps_expr (pe_call (okX_require_seat T) (hr.mono (by decide)) rfl T.m_require_seat T.F_require_seat.kp T.b_require_seat .nil (passes_call (takes_of rfl rfl rfl rfl) (fun _ _ _ _ h => h)) (pa_cons (pv 1) (pa_cons (pv 3) pa_nil)))) (pss_cons (ps_expr (pe_call (okX_require_moves T) (hr.mono (by decide)) rfl T.m_require_moves T.F_require_moves.kp T.b_require_moves .nil (passes_call (takes_of rfl rfl rfl rfl) (fun _ _ _ _ h => h)) (pa_cons (pv 1) (pa_cons (pv 4) pa_nil)))) (pss_cons (ps_asg (pe_tup (pa_cons (pv 1) (pa_cons (pe_callTy call_tuple_q (by rfl) T.z_tuple (by decide +kernel) (pa_cons (pv 2) pa_nil)) (pa_cons (pe_callTy call_tuple_q (by rfl) T.z_tuple (by decide +kernel) (pa_cons (pv 4) pa_nil)) pa_nil)))) (pg_tup rfl (pgs_cons (pg_fld (pv 0)) (pgs_cons (pg_fld (pv 0)) (pgs_cons (pg_fld (pv 0)) pgs_nil))))) (pss_one (ps_fld (pv 0) (pe_callTy call_tuple_of (by rfl) T.z_tuple (by decide +kernel) (pa_cons (pe_call (ok_visited_seats T) hr rfl T.m_visited_seats T.F_visited_seats.kp T.b_visited_seats .nil pass0 (pa_cons (pv 1) (pa_cons (pv 3) (pa_cons (pv 4) pa_nil)))) pa_nil)) rfl))))))), ?_⟩
    refine ⟨_, rfl, ?_⟩
    dsimp only [tNil, List.append_nil]
    refine rtab_use h T.cl_Table T.ic_Table T.ig_ T.it_ T.im_Table e0 fun a ns ex tab ok h9 => ?_
    subst ex
    clear h
    refine ⟨_, rfl, _, rfl, ?_⟩
    dsimp only [tNil, List.append_nil]
    refine rtgt_use h9 tab ok e0 fun h H1 e1 => ?_
    have E1 := ext e0 e1
    refine ⟨_, rfl, _, rfl, ?_⟩
    dsimp only [tNil, List.append_nil]
    refine rseat_use h tab ok E1 fun h H2 e2 => ?_
    have E2 := ext E1 e2
    refine ⟨_, rfl, _, rfl, ?_⟩
    dsimp only [tNil, List.append_nil]
    refine rmov_use h tab ok E2 fun h H3 e3 => ?_
    have E3 := ext E2 e3
    obtain ⟨⟨q, mq, sa, tss, st, ms, rfl, rfl, rfl, hq, hs, sk, hm, lm, hmm⟩, k⟩ := h
    have hp3 := e3 _ _ (e2 _ _ (e1 _ _ hp))
    obtain ⟨gs, hq1, hq2⟩ := hq.mono E3
    obtain ⟨ps, hm1, hm2⟩ := hm.mono E3
    refine ⟨_, rfl, _, rfl, q, _, rfl, hq1, fun g H4 e4 hg => ?_⟩
    refine ⟨_, rfl, mq, _, rfl, hm1.mono e4, fun pl H5 e5 hpl => ?_⟩
    (repeat (first | refine ⟨rfl, ?_⟩ | refine ⟨_, rfl, ?_⟩ | refine ⟨_, _, rfl, rfl, ?_⟩ | refine ⟨_, _, rfl, ?_⟩ | refine ⟨slen rfl, ?_⟩ | refine ⟨⟨by decide, by decide +kernel⟩, ?_⟩ | refine ⟨⟨by decide, by decide, by decide⟩, ?_⟩ | refine ⟨(by show (0 : Int) < _; first | decide | assumption | omega), ?_⟩ | refine ⟨mul_ok (by first | exact .inr (by decide) | exact .inl (by decide)), ?_⟩))
    (intro tp ntp; generalize hGtp : upd _ tp _ = H6; have eH6 := exG hGtp ntp; have htp := atG hGtp; clear hGtp)
    have E6 : Ex H3 H6 := ext e4 (ext e5 eH6)
    have hp6 := E6 _ _ hp3
    refine ⟨tp, _, rfl, SqT.of htp, rfl, ?_⟩
    refine ⟨_, _, rfl, _, rfl, p, T.C_Record, dx, [], rfl, hp6, T.cl_Record, T.n_Record_table, (by decide), ?_⟩
    refine ⟨_, _, rfl, _, rfl, p, T.C_Record, dx, _, rfl, upd_same, T.cl_Record, T.n_Record_goals, (by show 1 < 1000; decide), ?_⟩
    refine ⟨_, _, rfl, _, rfl, p, T.C_Record, dx, _, rfl, upd_same, T.cl_Record, T.n_Record_played, (by show 2 < 1000; decide), ?_⟩
    refine ⟨rfl, ?_⟩
    generalize hG7 : upd (upd (upd H6 p _) p _) p _ = H7
    have hp7 : H7 p = some (.ins T.C_Record dx [("table", .ref a), ("goals", .ref g), ("played", .ref pl)]) := by rw [← hG7]; exact upd_same
    have X7 : ∀ c o, c ≠ p → H6 c = some o → H7 c = some o := fun c o n z => by rw [← hG7, upd_ne n, upd_ne n, upd_ne n]; exact z
    clear hG7
    have E7 : Ex H0 H7 := fun c o z => X7 c o (ne_of_none z np) (E6 _ _ (E3 c o z))
    refine ⟨_, rfl, _, rfl, _, rfl, a, sa, mq, ns, st, ms, rfl, tab.mono E7, ok, E7 _ _ hs, sk, hm.mono E7, lm, hmm, fun f H8 e8 nf ra => ?_⟩
    obtain ⟨vs, hv1, hv2⟩ := ra
    refine ⟨f, _, rfl, .inl ⟨SqL.of hv1, ?_⟩⟩
    (intro vt nvt; generalize hGvt : upd _ vt _ = H9; have eH9 := exG hGvt nvt; have hvt := atG hGvt; clear hGvt)
    have E9 : Ex H7 H9 := ext e8 eH9
    refine ⟨_, rfl, p, T.C_Record, dx, _, rfl, E9 _ _ hp7, T.cl_Record, T.n_Record_visited, (by show 3 < 1000; decide), ?_⟩
    refine k _ fun c o z => ?_
    rw [upd_ne (ne_of_none z np)]
    exact E9 _ _ (E7 c o z)
/-- the seats of a record cannot be listed -/
def Big (ns : List Int) : Prop := CntOk ns ∧ 300 < prodL ns
def spX_Record_losses (CR C CL : Addr) : Sp := fun vs H Q E => ∃ (p : Addr) (ns st : List Int) (tss : List (List Int)) (ms : List (List Int × Bool)), vs = [.ref p] ∧ RecAt CR C H p ns st tss ms ∧ Big ns ∧ Rai E H CL "limit" (.int 300)
theorem okX_Record_losses (T : TX K mg) : FnOk P w K mg base (L2.CX P w) 6 T.f_Record_losses T.fd_Record_losses ["self"] (spX_Record_losses T.C_Record T.C_Table T.C_TooLarge) := by
  refine T.F_Record_losses.okX sc_Record_losses (fun vs H Q E h => ?_) (fun cdv A outer s H vs Q E hr h => ?_)
  · obtain ⟨p, ns, st, tss, ms, rfl, _⟩ := h
    rfl
  · obtain ⟨p, ns, st, tss, ms, rfl, ⟨dx, tb, g, pl, v, gs, ps, vs, h1, h2, h3, h4, h5, h6, h7, h8⟩, ⟨cn, big⟩, kE⟩ := h
    refine ⟨_, (pss_cons (ps_expr (pe_call (okX_require_small T) (hr.mono (by decide)) rfl T.m_require_small T.F_require_small.kp T.b_require_small .nil (passes_call (takes_of rfl rfl rfl rfl) (fun _ _ _ _ h => h)) (pa_cons (pe_fld (pv 0) rfl) pa_nil))) pss_never), ?_⟩
    exact ⟨_, rfl, p, T.C_Record, dx, _, _, rfl, h1, T.cl_Record, T.n_Record_table, rfl, tb, ns, rfl, h2, cn, big, kE⟩
def spX_Record_first_mistake (CR C CL : Addr) : Sp := spX_Record_losses CR C CL
theorem okX_Record_first_mistake (T : TX K mg) : FnOk P w K mg base (L2.CX P w) 7 T.f_Record_first_mistake T.fd_Record_first_mistake ["self"] (spX_Record_losses T.C_Record T.C_Table T.C_TooLarge) := by
  refine T.F_Record_first_mistake.okX sc_Record_first_mistake (fun vs H Q E h => ?_) (fun cdv A outer s H vs Q E hr h => ?_)
  · obtain ⟨p, ns, st, tss, ms, rfl, _⟩ := h
    rfl
  · obtain ⟨p, ns, st, tss, ms, rfl, ra, big, kE⟩ := h
    refine ⟨_, (pss_cons (ps_for (passes_of rfl) rfl (CE.pi_e rfl T.z_enumerate (pa_cons (pe_meth0 (pv 0) T.cl_Record T.me_Record_losses (okX_Record_losses T) hr T.b_Record_losses .nil (passes_call (takes_of rfl rfl rfl rfl) (fun _ _ _ _ h => h))) pa_nil)) (pg_tup rfl (pgs_cons (pg_name (i := 1) sc_Record_first_mistake.nd rfl (Or.inl rfl)) (pgs_cons (pg_name (i := 2) sc_Record_first_mistake.nd rfl (Or.inl rfl)) pgs_nil))) (pss_one (ps_if (pt_cmpR (r := rNeD K) (op_neD hr.units) (pv 2) (pe_tup (pa_cons pe_int (pa_cons pe_int pa_nil))) (nomark _)) (pss_one (ps_ret (pe_tup (pa_cons (pv 1) (pa_cons (pe_ifExp (pt_cmpR (r := rNeD K) (op_neD hr.units) (pe_ix ix_tup (pv 2) pe_int (fun _ _ => rfl)) pe_int (nomark _)) pe_str pe_str) pa_nil))))) pss_nil))) (pss_one (ps_ret pe_non))), ?_⟩
    obtain ⟨dx, tb, g, pl, v, gs, ps, vs, h1, hr0⟩ := id ra
    exact ⟨_, rfl, p, dx, _, rfl, h1, rfl, p, ns, st, tss, ms, rfl, ra, big, kE⟩
def WitX (K : PySem.W.Frag) (C CT CS CM CL : Addr) (E : XK) (H : Hp) (x s m : V) : Prop := RTab K C CT E H x fun _ ns => RSeat K CS E H ns s (RMov K CM E H ns m (Big ns ∧ Rai E H CL "limit" (.int 300)))
def spX_consistent_witnesses (K : PySem.W.Frag) (C CT CS CM CL : Addr) : Sp := fun vs H Q E => ∃ (x s m : V), vs = [x, s, m] ∧ WitX K C CT CS CM CL E H x s m
theorem okX_consistent_witnesses (T : TX K mg) : FnOk P w K mg base (L2.CX P w) 8 T.f_consistent_witnesses T.fd_consistent_witnesses ["table", "seat", "moves"] (spX_consistent_witnesses K T.C_Table T.C_InvalidTable T.C_InvalidSeat T.C_InvalidMoves T.C_TooLarge) := by
  refine T.F_consistent_witnesses.okX sc_consistent_witnesses (fun vs H Q E h => ?_) (fun cdv A outer s H vs Q E hr h => ?_)
  · obtain ⟨x, s, m, rfl, _⟩ := h
    rfl
  · obtain ⟨x, sv, m, rfl, h⟩ := h
    refine ⟨_, (pss_cons (ps_expr (pe_call (okX_require_table T) (hr.mono (by decide)) rfl T.m_require_table T.F_require_table.kp T.b_require_table .nil (passes_call (takes_of rfl rfl rfl rfl) (fun _ _ _ _ h => h)) (pa_cons (pv 0) pa_nil))) (pss_cons (ps_expr (pe_call (okX_require_seat T) (hr.mono (by decide)) rfl T.m_require_seat T.F_require_seat.kp T.b_require_seat .nil (passes_call (takes_of rfl rfl rfl rfl) (fun _ _ _ _ h => h)) (pa_cons (pv 0) (pa_cons (pv 1) pa_nil)))) (pss_cons (ps_expr (pe_call (okX_require_moves T) (hr.mono (by decide)) rfl T.m_require_moves T.F_require_moves.kp T.b_require_moves .nil (passes_call (takes_of rfl rfl rfl rfl) (fun _ _ _ _ h => h)) (pa_cons (pv 0) (pa_cons (pv 2) pa_nil)))) (pss_cons (ps_expr (pe_call (okX_require_small T) (hr.mono (by decide)) rfl T.m_require_small T.F_require_small.kp T.b_require_small .nil (passes_call (takes_of rfl rfl rfl rfl) (fun _ _ _ _ h => h)) (pa_cons (pv 0) pa_nil))) pss_never)))), ?_⟩
    refine ⟨_, rfl, ?_⟩
    dsimp only [tNil, List.append_nil]
    refine rtab_use h T.cl_Table T.ic_Table T.ig_ T.it_ T.im_Table exr fun a ns ex tab ok h9 => ?_
    subst ex
    clear h
    refine ⟨_, rfl, _, rfl, ?_⟩
    dsimp only [tNil, List.append_nil]
    refine rseat_use h9 tab ok exr fun h H2 E2 => ?_
    refine ⟨_, rfl, _, rfl, ?_⟩
    dsimp only [tNil, List.append_nil]
    refine rmov_use h tab ok E2 fun h H3 e3 => ?_
    obtain ⟨⟨cn, big⟩, kE⟩ := h
    exact ⟨_, rfl, a, ns, rfl, tab.mono (ext E2 e3), cn, big, kE.mono (ext E2 e3)⟩
end

/-- data that repr shows, and that stands -/
structure ShA (K : PySem.W.Frag) (H : Hp) (x : V) (d : PyData) : Prop where
  de : CG.De K H x d
  sh : d.showable = true
  len : d.shown.length ≤ sizeLine
  dep : d.depth ≤ 60
/-- the pair that tells an error -/
def TwoS (G : Hp) (r : Addr) (w : Str) (v : V) : Prop := G r = some (.tup [.str w, v])
def ErrR (K : PySem.W.Frag) (CT CG CS CM CL : Addr) (Q : VK) : XK := fun cls d G => ∃ (dd : Addr) (f : Str) (x : V), d = some dd ∧ G dd = some (.xd [(f, x)]) ∧
  ((cls = .ref CT ∧ ∀ G2 r, Ex G G2 → TwoS G2 r "table" .non → Q (.ref r) G2) ∨ (cls = .ref CG ∧ f = "index" ∧ ∀ G2 r, Ex G G2 → TwoS G2 r "targets" x → Q (.ref r) G2) ∨
   (cls = .ref CS ∧ f = "seat" ∧ ∃ e, (∀ G2, Ex G G2 → ShA K G2 x e) ∧ ∀ G2 r, Ex G G2 → TwoS G2 r "seat" (.str e.shown) → Q (.ref r) G2) ∨
   (cls = .ref CM ∧ f = "index" ∧ ∀ G2 r, Ex G G2 → TwoS G2 r "moves" x → Q (.ref r) G2) ∨ (cls = .ref CL ∧ f = "limit" ∧ ∀ G2 r, Ex G G2 → TwoS G2 r "large" x → Q (.ref r) G2))
def TTrai (K : PySem.W.Frag) (CT CG CS CM CL : Addr) : (XK → Hp → VK → Prop) → Hp → VK → Prop := fun tl H Q => tl (ErrR K CT CG CS CM CL Q) H (fun _ H1 => Q .non H1)
section
variable {P : Program} {w : World} {K : PySem.W.Frag} {mg : Str → Option Value} {base : Heap}
theorem gives_law_raised (T : TX K mg) (L : TL T base) (k : Nat) : CG.Gives P w K mg base k N_law_raised "_law_raised" "_law_ask" s_law_raised T.f_law_raised (TTrai K T.C_InvalidTable T.C_InvalidTargets T.C_InvalidSeat T.C_InvalidMoves T.C_TooLarge) := by
  intro A outer cdg f s H Q Rd tl gd hr act here h
  refine ⟨_, (pss_cons (ps_try_mix rfl rfl sc_law_raised.nd (fun W pn xe tk _ => pss_one (ps_expr (by exact (act W pn xe _ _ tk)))) (.bare ⟨rfl, by decide, Or.inl T.m_InvalidTable⟩ (fun a oe cls d pn hz hf => (pss_one (ps_ret (pe_tup (pa_cons pe_str (pa_cons pe_non pa_nil)))))) (.named (i := 1) rfl rfl ⟨rfl, by decide, Or.inl T.m_InvalidTargets⟩ (fun a oe cls d pn hz hf => (pss_one (ps_ret (pe_tup (pa_cons pe_str (pa_cons (pe_xf T.xf_InvalidTargets T.n_InvalidTargets_index hz hf (pv 1)) pa_nil)))))) (.named (i := 1) rfl rfl ⟨rfl, by decide, Or.inl T.m_InvalidSeat⟩ (fun a oe cls d pn hz hf => (pss_one (ps_ret (pe_tup (pa_cons pe_str (pa_cons (pe_callB (r := CG.rReprA K) (CG.cr_reprA L.sysb gd (have z := u65 hr; z)) (by rfl) T.z_repr (by decide +kernel) (pa_cons (pe_xf T.xf_InvalidSeat T.n_InvalidSeat_seat hz hf (pv 1)) pa_nil)) pa_nil)))))) (.named (i := 1) rfl rfl ⟨rfl, by decide, Or.inl T.m_InvalidMoves⟩ (fun a oe cls d pn hz hf => (pss_one (ps_ret (pe_tup (pa_cons pe_str (pa_cons (pe_xf T.xf_InvalidMoves T.n_InvalidMoves_index hz hf (pv 1)) pa_nil)))))) (.named (i := 1) rfl rfl ⟨rfl, by decide, Or.inl T.m_TooLarge⟩ (fun a oe cls d pn hz hf => (pss_one (ps_ret (pe_tup (pa_cons pe_str (pa_cons (pe_xf T.xf_TooLarge T.n_TooLarge_limit hz hf (pv 1)) pa_nil)))))) (.bare ⟨rfl, by decide, Or.inl T.m_SeatError⟩ (fun a oe cls d pn hz hf => (pss_one (ps_ret (pe_tup (pa_cons pe_str (pa_cons pe_non pa_nil)))))) .nil))))))) (pss_one (ps_ret pe_non))), ?_⟩
  refine ⟨rfl, here, _, ?_, h⟩
  rintro cls d G ⟨dd, fl, x, rfl, hdd, h⟩
  rcases h with ⟨rfl, kq⟩ | ⟨rfl, rfl, kq⟩ | ⟨rfl, rfl, e, sh, kq⟩ | ⟨rfl, rfl, kq⟩ | ⟨rfl, rfl, kq⟩
  · refine ⟨true, T.em_InvalidTable, (fun z => nomatch z), fun _ a na => ?_⟩
    refine ⟨slen rfl, ?_⟩
    (intro r nr; generalize hGr : upd _ r _ = G4; have eG4 := exG hGr nr; have hr := atG hGr; clear hGr)
    exact kq G4 r eG4 hr
  · refine ⟨false, T.en_InvalidTargets_InvalidTable, fun _ => ?_, (fun z => nomatch z)⟩
    refine ⟨true, T.em_InvalidTargets, (fun z => nomatch z), fun _ a na => ?_⟩
    refine ⟨_, rfl, rfl, rfl, dd, _, _, rfl, hdd, rfl, slen rfl, ?_⟩
    (intro r nr; generalize hGr : upd _ r _ = G4; have eG4 := exG hGr nr; have hr := atG hGr; clear hGr)
    exact kq G4 r eG4 hr
  · refine ⟨false, T.en_InvalidSeat_InvalidTable, fun _ => ?_, (fun z => nomatch z)⟩
    refine ⟨false, T.en_InvalidSeat_InvalidTargets, fun _ => ?_, (fun z => nomatch z)⟩
    refine ⟨true, T.em_InvalidSeat, (fun z => nomatch z), fun _ a na => ?_⟩
    refine ⟨_, rfl, rfl, rfl, dd, _, _, rfl, hdd, rfl, _, e, rfl, (sh _ exr).de, (sh _ exr).sh, (sh _ exr).len, (sh _ exr).dep, slen rfl, ?_⟩
    (intro r nr; generalize hGr : upd _ r _ = G4; have eG4 := exG hGr nr; have hr := atG hGr; clear hGr)
    exact kq G4 r eG4 hr
  · refine ⟨false, T.en_InvalidMoves_InvalidTable, fun _ => ?_, (fun z => nomatch z)⟩
    refine ⟨false, T.en_InvalidMoves_InvalidTargets, fun _ => ?_, (fun z => nomatch z)⟩
    refine ⟨false, T.en_InvalidMoves_InvalidSeat, fun _ => ?_, (fun z => nomatch z)⟩
    refine ⟨true, T.em_InvalidMoves, (fun z => nomatch z), fun _ a na => ?_⟩
    refine ⟨_, rfl, rfl, rfl, dd, _, _, rfl, hdd, rfl, slen rfl, ?_⟩
    (intro r nr; generalize hGr : upd _ r _ = G4; have eG4 := exG hGr nr; have hr := atG hGr; clear hGr)
    exact kq G4 r eG4 hr
  · refine ⟨false, T.en_TooLarge_InvalidTable, fun _ => ?_, (fun z => nomatch z)⟩
    refine ⟨false, T.en_TooLarge_InvalidTargets, fun _ => ?_, (fun z => nomatch z)⟩
    refine ⟨false, T.en_TooLarge_InvalidSeat, fun _ => ?_, (fun z => nomatch z)⟩
    refine ⟨false, T.en_TooLarge_InvalidMoves, fun _ => ?_, (fun z => nomatch z)⟩
    refine ⟨true, T.em_TooLarge, (fun z => nomatch z), fun _ a na => ?_⟩
    refine ⟨_, rfl, rfl, rfl, dd, _, _, rfl, hdd, rfl, slen rfl, ?_⟩
    (intro r nr; generalize hGr : upd _ r _ = G4; have eG4 := exG hGr nr; have hr := atG hGr; clear hGr)
    exact kq G4 r eG4 hr
end

/-! ### data that repr shows, empty dicts among them -/
structure Sx (n c : Nat) (d : PyData) : Prop where
  sh : d.showable = true
  len : d.shown.length ≤ c
  dep : d.depth ≤ n
theorem Sx.up {n m c e : Nat} {d : PyData} (h : Sx n c d) (a : n ≤ m) (b : c ≤ e) : Sx m e d := ⟨h.sh, Nat.le_trans h.len b, Nat.le_trans h.dep a⟩
theorem sx_int {i : Int} (h : i.natAbs < 2 ^ 300) : Sx 0 2000 (.int i) := by
  have hl : i.natAbs.log2 < 1920 := by
    by_cases z : i.natAbs = 0
    · rw [z]
      decide
    · exact (Nat.log2_lt z).mpr (Nat.lt_of_lt_of_le h (Nat.pow_le_pow_right (by decide) (by decide)))
  exact ⟨decide_eq_true hl, Nat.le_trans (int_text_len_1921 hl) (by decide), by simp only [PyData.depth]; omega⟩
theorem sx_none : Sx 0 2000 .none := ⟨rfl, by decide +kernel, by decide⟩
theorem sx_bool (b : Bool) : Sx 0 2000 (.bool b) := ⟨rfl, by cases b <;> decide +kernel, by simp only [PyData.depth]; omega⟩
theorem sx_one : Sx 0 2000 (.str "1") := ⟨rfl, by rw [PyData.shown_str]; decide +kernel, by simp only [PyData.depth]; omega⟩
theorem sx_emp : Sx 1 2000 (.dict []) := ⟨rfl, by simp only [PyData.shown, PyData.shownKv]; decide +kernel, by simp only [PyData.depth, PyData.depthKv]; omega⟩
theorem sx_all {n c : Nat} : ∀ {ds : List PyData}, (∀ d ∈ ds, Sx n c d) → PyData.showableAll ds = true ∧ PyData.depthAll ds ≤ n ∧ ((PyData.shownAll ds).map (·.length)).sum ≤ ds.length * c ∧ (PyData.shownAll ds).length = ds.length
  | [], _ => ⟨rfl, by simp only [PyData.depthAll]; omega, by simp [PyData.shownAll], rfl⟩
  | d :: ds, h => by
    obtain ⟨a, e, b⟩ := h d List.mem_cons_self
    obtain ⟨a2, b2, e2, l2⟩ := sx_all fun x hx => h x (List.mem_cons_of_mem _ hx)
    refine ⟨by simp only [PyData.showableAll, a, a2, Bool.and_true], by simp only [PyData.depthAll]; omega, ?_, by simp only [PyData.shownAll, List.length_cons, l2]⟩
    simp only [PyData.shownAll, List.map_cons, List.sum_cons, List.length_cons, Nat.succ_mul]
    omega
theorem sx_tuple {n c : Nat} {ds : List PyData} (h : ∀ d ∈ ds, Sx n c d) : Sx (n + 1) (ds.length * (c + 2) + 3) (.tuple ds) := by
  obtain ⟨a, b, e, l⟩ := sx_all h
  refine ⟨by simpa only [PyData.showable] using a, ?_, by simp only [PyData.depth]; omega⟩
  have := tupleText_len_le (PyData.shownAll ds)
  simp only [PyData.shown, Nat.mul_add] at *
  omega
theorem sx_list {n c : Nat} {ds : List PyData} (h : ∀ d ∈ ds, Sx n c d) : Sx (n + 1) (ds.length * (c + 2) + 3) (.list ds) := by
  obtain ⟨a, b, e, l⟩ := sx_all h
  refine ⟨by simpa only [PyData.showable] using a, ?_, by simp only [PyData.depth]; omega⟩
  have := listText_len_le (PyData.shownAll ds)
  simp only [PyData.shown, Nat.mul_add] at *
  omega
theorem big300 {i : Int} (h : i.natAbs ≤ 10 ^ 62) : i.natAbs < 2 ^ 300 := Nat.lt_of_le_of_lt h (by decide)
/-- a part of a witness -/
structure Pd (d : PyData) : Prop where
  sx : Sx 3 9000 d
  tb : ∀ es, tupD d = some es → es.length ≤ 1000
  bm : ∀ m, intD d = some m → m.natAbs < 2 ^ 5000
theorem pd_int {i : Int} (h : i.natAbs ≤ 10 ^ 62) : Pd (.int i) := ⟨(sx_int (big300 h)).up (by decide) (by decide), (fun _ e => by cases e), fun m e => by cases e; exact Nat.lt_of_lt_of_le (big300 h) (Nat.pow_le_pow_right (by decide) (by decide))⟩
theorem pd_tuple {ds : List PyData} (l : ds.length ≤ 4) (h : ∀ d ∈ ds, Sx 2 2100 d) : Pd (.tuple ds) := ⟨(sx_tuple h).up (by decide) (by have := Nat.mul_le_mul_right 2102 l; omega), (fun _ e => by cases e; omega), (fun _ e => by cases e)⟩
theorem pd_list {ds : List PyData} (l : ds.length ≤ 4) (h : ∀ d ∈ ds, Sx 2 2100 d) : Pd (.list ds) := ⟨(sx_list h).up (by decide) (by have := Nat.mul_le_mul_right 2102 l; omega), (fun _ e => by cases e), (fun _ e => by cases e)⟩
theorem pd_sx {d : PyData} (h : Sx 2 2100 d) (t : tupD d = none) (i : intD d = none) : Pd d := ⟨h.up (by decide) (by decide), (fun _ e => by rw [t] at e; cases e), (fun _ e => by rw [i] at e; cases e)⟩
theorem sx_i {i : Int} (h : i.natAbs ≤ 10 ^ 62) : Sx 2 2100 (.int i) := (sx_int (big300 h)).up (by decide) (by decide)
/-- a witness or what is handed for one -/
structure Good11 (d : PyData) : Prop where
  sx : Sx 4 30000 d
  tb : ∀ ds, d = .tuple ds → ∀ e ∈ ds, ∀ es, tupD e = some es → es.length ≤ 1000
  bm : ∀ dm dw dr m, d = .tuple [dm, dw, dr] → intD dm = some m → m.natAbs < 2 ^ 5000
theorem good11_tuple {ds : List PyData} (l : ds.length ≤ 3) (h : ∀ d ∈ ds, Pd d) : Good11 (.tuple ds) := by
  refine ⟨(sx_tuple (c := 9000) fun d hd => (h d hd).sx).up (by decide) (by have := Nat.mul_le_mul_right 9002 l; omega), fun es e d hd => ?_, fun dm dw dr m e hm => ?_⟩
  · cases e
    exact (h d hd).tb
  · cases e
    exact (h dm List.mem_cons_self).bm m hm
theorem good11_list {ds : List PyData} (l : ds.length ≤ 3) (h : ∀ d ∈ ds, Pd d) : Good11 (.list ds) :=
  ⟨(sx_list (c := 9000) fun d hd => (h d hd).sx).up (by decide) (by have := Nat.mul_le_mul_right 9002 l; omega), (fun _ e => by cases e), (fun _ _ _ _ e => by cases e)⟩
theorem good11_any {d : PyData} (h : Sx 2 2100 d) (t : ∀ ds, d ≠ .tuple ds) : Good11 d := ⟨h.up (by decide) (by decide), fun ds e => absurd e (t ds), fun _ _ _ _ e => absurd e (t _)⟩
theorem DqAll.app {B : Addr → Prop} {H : Hp} : ∀ {xs ys : List V} {ds es : List PyData}, DqAll B H xs ds → DqAll B H ys es → DqAll B H (xs ++ ys) (ds ++ es)
  | _, _, _, _, .nil, h => h
  | _, _, _, _, .cons q t, h => .cons q (DqAll.app t h)
theorem cat_tup {K : PySem.W.Frag} {H : Hp} {Q : VK} {a b : Addr} {xs ys : List V} (ha : H a = some (.tup xs)) (hb : H b = some (.tup ys)) (l : xs.length + ys.length ≤ 2000) (h : ∀ v H5, Ex H H5 → H5 v = some (.tup (xs ++ ys)) → Q (.ref v) H5) : rCatA K (.ref a) (.ref b) H Q := by
  refine ⟨a, b, _, _, rfl, rfl, SqT.of ha, SqT.of hb, Nat.le_trans l (by decide), fun e => ?_, fun _ e => ?_, fun _ _ p hp => ?_⟩
  · refine h b H exr ?_
    rw [e]
    exact hb
  · refine h a H exr ?_
    rw [e, List.append_nil]
    exact ha
  · exact h p _ (exn hp) upd_same
theorem sl_ints {K : PySem.W.Frag} {H : Hp} {Q : VK} {a : Addr} {xs : List V} {lo hi : Option Int} (ha : H a = some (.tup xs)) (h : ∀ v H5, Ex H H5 → H5 v = some (.tup (cutV xs lo hi)) → Q (.ref v) H5) : rSlA K (.ref a) lo hi H Q :=
  ⟨a, _, rfl, SqT.of ha, fun hw => h a H exr (by rw [cut_whole hw]; exact ha), fun _ p hp => h p _ (exn hp) upd_same⟩

/-! ### all but the source and the tables of code objects stays -/
def XN (s : Addr) (H H2 : Hp) : Prop := ∀ c o, c ≠ s → (∀ ps, o ≠ HO.tbl ps) → H c = some o → H2 c = some o
theorem XN.refl {s : Addr} {H : Hp} : XN s H H := fun _ _ _ _ h => h
theorem XN.trans {s : Addr} {H H1 H2 : Hp} (a : XN s H H1) (b : XN s H1 H2) : XN s H H2 := fun c o n t h => b c o n t (a c o n t h)
theorem XN.xb {s : Addr} {H H2 : Hp} (x : XB s H H2) : XN s H H2 := fun c o n _ h => x c o n h
theorem XN.of {s : Addr} {H H2 : Hp} (e : Ex H H2) : XN s H H2 := fun c o _ _ h => e c o h
theorem XN.en {s : Addr} {H H2 : Hp} (e : LamX.ExtN H H2) : XN s H H2 := fun c o _ t h => e c o h t
theorem XN.lst {s q : Addr} {H H2 : Hp} {xs : List V} (x : XN s H H2) (n : q ≠ s) (h : H q = some (.lst xs)) : H2 q = some (.lst xs) := x _ _ n (fun _ z => nomatch z) h
theorem XN.tup {s q : Addr} {H H2 : Hp} {xs : List V} (x : XN s H H2) (src : Src H s) (h : H q = some (.tup xs)) : H2 q = some (.tup xs) := x _ _ (fun z => by
  obtain ⟨_, _, _, e⟩ := src
  rw [z, e] at h
  cases h) (fun _ z => nomatch z) h
theorem XN.tab {C s q : Addr} {H H2 : Hp} {ns : List Int} (x : XN s H H2) (src : Src H s) (h : TabAt C H q ns) : TabAt C H2 q ns := by
  obtain ⟨dx, t, h1, h2⟩ := h
  exact ⟨dx, t, x _ _ (fun z => by
    obtain ⟨_, _, _, e⟩ := src
    rw [z, e] at h1
    cases h1) (fun _ z => nomatch z) h1, x.tup src h2⟩
theorem XN.rows {s q : Addr} {H H2 : Hp} {tss : List (List Int)} (x : XN s H H2) (src : Src H s) (n : q ≠ s) (h : RowsAt H q tss) : RowsAt H2 q tss := by
  obtain ⟨xs, h1, h2⟩ := h
  exact ⟨xs, x.lst n h1, h2.monoT fun _ _ z => x.tup src z⟩
theorem Src.en {s : Addr} {H H2 : Hp} (h : Src H s) (e : LamX.ExtN H H2) : Src H2 s := by
  obtain ⟨a, b, c, h⟩ := h
  exact ⟨a, b, c, e _ _ h (fun _ z => nomatch z)⟩
theorem Tabs.xb {s : Addr} {T : List (Addr × Str)} {H H2 : Hp} (t : LamX.Tabs T H) (src : Src H s) (x : XB s H H2) : LamX.Tabs T H2 := fun p hp => by
  obtain ⟨ps, h1, h2, h3⟩ := t p hp
  obtain ⟨_, _, _, hs⟩ := src
  refine ⟨ps, x _ _ (fun z => by rw [z, hs] at h1; cases h1) h1, h2, fun pos cv hc => ?_⟩
  obtain ⟨c, e1, e2⟩ := h3 pos cv hc
  exact ⟨c, e1, x _ _ (fun z => by rw [z, hs] at e2; exact nomatch (show HO.lst _ = HO.ext _ from Option.some.inj e2)) e2⟩

/-! ### shown texts are texts -/
def Sk (x : Str) : Prop := ∀ c ∈ x.cps.toList, c < 0x110000
theorem sk_ok {x : Str} (h : Sk x) : (PyData.str x).canLay0 = true := by
  simp only [PyData.canLay0, PyData.strOk]
  rw [Array.all_eq_true_iff_forall_mem]
  intro c hc
  exact decide_eq_true (h c (Array.mem_toList_iff.mpr hc))
theorem sk_of (s : String) : Sk (Str.ofString s) := fun c hc => by
  rw [Str.ofString_eq_toList] at hc
  have hc : c ∈ s.toList.map Char.toNat := hc
  obtain ⟨ch, _, rfl⟩ := List.mem_map.mp hc
  have := ch.valid
  show ch.val.toNat < 0x110000
  rcases this with h | ⟨_, h⟩
  · exact Nat.lt_trans h (by decide)
  · exact h
theorem sk_app {a b : Str} (ha : Sk a) (hb : Sk b) : Sk (a ++ b) := fun c hc => by
  have hc : c ∈ (a.cps ++ b.cps).toList := hc
  rw [Array.toList_append, List.mem_append] at hc
  exact hc.elim (ha c) (hb c)
theorem sk_empty : Sk Str.empty := fun c hc => nomatch (show c ∈ ([] : List Nat) from hc)
theorem sk_join {sep : Str} (hs : Sk sep) : ∀ {l : List Str}, (∀ x ∈ l, Sk x) → Sk (Str.join sep l)
  | [], _ => sk_empty
  | [x], h => h x List.mem_cons_self
  | x :: y :: r, h => sk_app (sk_app (h x List.mem_cons_self) hs) (sk_join hs fun z hz => h z (List.mem_cons_of_mem _ hz))
theorem sk_from : ∀ {l : List Str} {k : Nat} {acc : Str}, Sk acc → (∀ x ∈ l, Sk x) → Sk (textFrom k acc l)
  | [], _, _, ha, _ => ha
  | x :: l, k, acc, ha, h => sk_from (l := l) (sk_app (sk_app ha (by split <;> exact sk_of _)) (h x List.mem_cons_self)) fun z hz => h z (List.mem_cons_of_mem _ hz)
theorem sk_all : ∀ {ds : List PyData}, (∀ d ∈ ds, Sk d.shown) → ∀ x ∈ PyData.shownAll ds, Sk x
  | [], _, x, hx => nomatch hx
  | d :: ds, h, x, hx => by
    rcases List.mem_cons.mp (show x ∈ d.shown :: PyData.shownAll ds from hx) with rfl | hx
    · exact h d List.mem_cons_self
    · exact sk_all (fun e he => h e (List.mem_cons_of_mem _ he)) x hx
theorem sk_list {ds : List PyData} (h : ∀ d ∈ ds, Sk d.shown) : Sk (PyData.list ds).shown := by
  simp only [PyData.shown, listText]
  exact sk_app (sk_from (sk_of _) (sk_all h)) (sk_of _)
theorem sk_tuple {ds : List PyData} (h : ∀ d ∈ ds, Sk d.shown) : Sk (PyData.tuple ds).shown := by
  simp only [PyData.shown, tupleText]
  exact sk_app (sk_app (sk_of _) (sk_join (sk_of _) (sk_all h))) (by split <;> exact sk_of _)
theorem sk_none : Sk PyData.none.shown := sk_of _
theorem sk_bool (b : Bool) : Sk (PyData.bool b).shown := by cases b <;> exact sk_of _
theorem sk_int (i : Int) : Sk (PyData.int i).shown := sk_of _
theorem sk_emp : Sk (PyData.dict []).shown := by
  have h : ((PyData.dict []).shown.cps.toList.all fun c => decide (c < 0x110000)) = true := by
    simp only [PyData.shown, PyData.shownKv]
    decide +kernel
  intro c hc
  exact of_decide_eq_true (List.all_eq_true.mp h c hc)
theorem sk_word {x : Str} (h : ((reprText x).cps.toList.all fun c => decide (c < 0x110000)) = true) : Sk (PyData.str x).shown := by
  rw [PyData.shown_str]
  intro c hc
  exact of_decide_eq_true (List.all_eq_true.mp h c hc)
theorem sk_ints (ps : List Int) : Sk (iT ps).shown := sk_tuple fun d hd => by
  obtain ⟨i, _, rfl⟩ := List.mem_map.mp hd
  exact sk_int i
theorem sk_lit (s : String) : Sh 3 (.str (Str.ofString s)) := ⟨sk_ok (sk_of s), by simp only [PyData.depth]; omega⟩

def Shn (d : PyData) : Prop := Sx 4 30000 d ∧ Sk d.shown
theorem shn_tup {ds : List PyData} (l : ds.length ≤ 10) (h : ∀ d ∈ ds, Sx 1 2000 d ∧ Sk d.shown) : Shn (.tuple ds) := ⟨(sx_tuple fun d hd => (h d hd).1).up (by decide) (by have := Nat.mul_le_mul_right 2002 l; omega), sk_tuple fun d hd => (h d hd).2⟩
theorem shn_list {ds : List PyData} (l : ds.length ≤ 10) (h : ∀ d ∈ ds, Sx 1 2000 d ∧ Sk d.shown) : Shn (.list ds) := ⟨(sx_list fun d hd => (h d hd).1).up (by decide) (by have := Nat.mul_le_mul_right 2002 l; omega), sk_list fun d hd => (h d hd).2⟩
theorem s_int {i : Int} (h : i.natAbs < 2 ^ 300) : Sx 1 2000 (.int i) ∧ Sk (PyData.int i).shown := ⟨(sx_int h).up (by decide) (Nat.le_refl _), sk_int i⟩
theorem s_bool (b : Bool) : Sx 1 2000 (.bool b) ∧ Sk (PyData.bool b).shown := ⟨(sx_bool b).up (by decide) (Nat.le_refl _), sk_bool b⟩
theorem shn_of {d : PyData} (h : Sx 1 2000 d ∧ Sk d.shown) : Shn d := ⟨h.1.up (by decide) (by decide), h.2⟩
theorem shn_emp : Shn (.dict []) := shn_of ⟨sx_emp.up (by decide) (by decide), sk_emp⟩
theorem shn_none : Shn .none := shn_of ⟨sx_none.up (by decide) (by decide), sk_none⟩
theorem s_ints {ps : List Int} (h : ∀ x ∈ ps, x.natAbs < 2 ^ 300) : ∀ d ∈ ps.map PyData.int, Sx 1 2000 d ∧ Sk d.shown := fun d hd => by
  obtain ⟨i, hi, rfl⟩ := List.mem_map.mp hd
  exact s_int (h i hi)
theorem s_zeros {n : Nat} : ∀ d ∈ (List.replicate n (0 : Int)).map PyData.int, Sx 1 2000 d ∧ Sk d.shown := s_ints fun x hx => by rw [List.eq_of_mem_replicate hx]; decide
theorem s_snoc {ds : List PyData} {e : PyData} (h : ∀ d ∈ ds, Sx 1 2000 d ∧ Sk d.shown) (he : Sx 1 2000 e ∧ Sk e.shown) : ∀ d ∈ ds ++ [e], Sx 1 2000 d ∧ Sk d.shown := fun d hd => by
  rcases List.mem_append.mp hd with h2 | h2
  · exact h d h2
  · rw [List.mem_singleton.mp h2]
    exact he
theorem shn_word {x : Str} (h : ((reprText x).cps.toList.all fun c => decide (c < 0x110000)) = true) (l : (reprText x).length ≤ 2000) : Shn (.str x) := shn_of ⟨⟨rfl, by rw [PyData.shown_str]; exact l, by simp only [PyData.depth]; omega⟩, sk_word h⟩

theorem Dq.xb {s : Addr} {H H2 : Hp} {v : V} {d : PyData} (src : Src H s) (x : XB s H H2) (q : Dq (· ≠ s) H v d) : Dq (· ≠ s) H2 v d := q.to (fun a xs b h => ⟨x _ _ b h, b⟩) (fun a xs h => tup_xb src h x) (fun a h => x _ _ (fun z => by
  obtain ⟨_, _, _, e⟩ := src
  rw [z, e] at h
  cases h) h)
theorem DqAll.xb {s : Addr} {H H2 : Hp} {vs : List V} {ds : List PyData} (src : Src H s) (x : XB s H H2) (q : DqAll (· ≠ s) H vs ds) : DqAll (· ≠ s) H2 vs ds := q.to (fun a xs b h => ⟨x _ _ b h, b⟩) (fun a xs h => tup_xb src h x) (fun a h => x _ _ (fun z => by
  obtain ⟨_, _, _, e⟩ := src
  rw [z, e] at h
  cases h) h)
theorem atI_nn {α : Type} {xs : List α} {k : Nat} {v : α} (h : xs[k]? = some v) : atI xs (k : Int) = some v := by
  unfold atI
  rw [Evl.ixN_nat (List.getElem?_eq_some_iff.mp h).1]
  exact h
theorem DqAll.at {B : Addr → Prop} {H : Hp} {xs : List V} {ds : List PyData} {r : Int} (h : DqAll B H xs ds) (r0 : 0 ≤ r) (r1 : r < xs.length) : ∃ (k : Nat) (v : V) (d : PyData), r = (k : Int) ∧ xs[k]? = some v ∧ atI xs r = some v ∧ ds[k]? = some d ∧ d ∈ ds ∧ Dq B H v d := by
  obtain ⟨k, rfl⟩ := Int.eq_ofNat_of_zero_le r0
  have hk : k < xs.length := by omega
  have hv := List.getElem?_eq_getElem hk
  obtain ⟨d, hd, q⟩ := h.get hv
  exact ⟨k, _, d, rfl, hv, atI_nn hv, hd, List.mem_of_getElem? hd, q⟩
theorem NoSeq.xb {s : Addr} {H H2 : Hp} {v : V} (src : Src H s) (x : XB s H H2) (h : NoSeq H v) : NoSeq H2 v := h.to (fun a kvs e => x _ _ (fun z => by
  obtain ⟨_, _, _, q⟩ := src
  rw [z, q] at e
  cases e) e) (fun a kvs e => x _ _ (fun z => by
  obtain ⟨_, _, _, q⟩ := src
  rw [z, q] at e
  cases e) e)
/-- targets with the index of their fault -/
structure BadG (s : Addr) (ns : List Int) (H : Hp) (x : V) (i : Int) (od : Option (List PyData)) : Prop where
  here : match od with
    | none => NoSeq H x
    | some ds => ∃ (q : Bool × Addr) (xs : List V), x = .ref q.2 ∧ (q.1 = false → q.2 ≠ s) ∧ SqH H q xs ∧ DqAll (· ≠ s) H xs ds
  bd : ∀ ds, od = some ds → ds.length ≤ 1000 ∧ ∀ d ∈ ds, ShortT d
  due : tgtDue ns od = some i
theorem BadG.tgt {K : PySem.W.Frag} {s : Addr} {ns : List Int} {H : Hp} {x : V} {i : Int} {od : Option (List PyData)} (h : BadG s ns H x i od) : TgtAt K (· ≠ s) H x od := by
  cases od with
  | none => exact h.here
  | some ds =>
    obtain ⟨q, xs, e, _, a, b⟩ := h.here
    exact ⟨q, xs, e, a, b⟩
theorem BadG.mono {s : Addr} {ns : List Int} {H H2 : Hp} {x : V} {i : Int} {od : Option (List PyData)} (e : Ex H H2) (h : BadG s ns H x i od) : BadG s ns H2 x i od := by
  refine ⟨?_, h.bd, h.due⟩
  have g := h.here
  cases od with
  | none => exact NoSeq.to (fun a kvs z => e _ _ z) (fun a kvs z => e _ _ z) g
  | some ds =>
    obtain ⟨q, xs, rfl, n, a, b⟩ := g
    exact ⟨q, xs, rfl, n, a.mono e, b.mono e⟩
theorem BadG.xb {s : Addr} {ns : List Int} {H H2 : Hp} {x : V} {i : Int} {od : Option (List PyData)} (src : Src H s) (xb : XB s H H2) (h : BadG s ns H x i od) : BadG s ns H2 x i od := by
  refine ⟨?_, h.bd, h.due⟩
  have g := h.here
  cases od with
  | none => exact NoSeq.xb src xb g
  | some ds =>
    obtain ⟨q, xs, rfl, n, a, b⟩ := g
    refine ⟨q, xs, rfl, n, ?_, b.xb src xb⟩
    obtain ⟨b2, q⟩ := q
    cases b2
    · exact xb _ _ (n rfl) a
    · exact tup_xb src (show H q = some (.tup xs) from a) xb
/-- the pair of both -/
def PairG (s : Addr) (ns : List Int) (H : Hp) (v : V) : Prop := ∃ (r : Addr) (x : V) (i : Int) (od : Option (List PyData)), v = .ref r ∧ r ≠ s ∧ H r = some (.lst [x, .int i]) ∧ BadG s ns H x i od
theorem PairG.mono {s : Addr} {ns : List Int} {H H2 : Hp} {v : V} (e : Ex H H2) (h : PairG s ns H v) : PairG s ns H2 v := by
  obtain ⟨r, x, i, od, rfl, n, h1, h2⟩ := h
  exact ⟨r, x, i, od, rfl, n, e _ _ h1, h2.mono e⟩
theorem PairG.xb {s : Addr} {ns : List Int} {H H2 : Hp} {v : V} (src : Src H s) (xb : XB s H H2) (h : PairG s ns H v) : PairG s ns H2 v := by
  obtain ⟨r, x, i, od, rfl, n, h1, h2⟩ := h
  exact ⟨r, x, i, od, rfl, n, xb _ _ n h1, h2.xb src xb⟩
theorem badg_no {s : Addr} {ns : List Int} {H : Hp} {x : V} (h : NoSeq H x) : BadG s ns H x (-1) none := ⟨h, (fun ds e => by cases e), rfl⟩
theorem badg_nil {s : Addr} {ns : List Int} {H : Hp} {q : Bool × Addr} (n : q.1 = false → q.2 ≠ s) (h : SqH H q []) : BadG s ns H (.ref q.2) (-1) (some []) := ⟨⟨q, [], rfl, n, h, .nil⟩, (fun ds e => by cases e; exact ⟨Nat.zero_le _, fun d hd => nomatch hd⟩), rfl⟩
theorem badg_go {s : Addr} {ns : List Int} {H : Hp} {q : Bool × Addr} {xs : List V} {ds : List PyData} {i : Int} (n : q.1 = false → q.2 ≠ s) (h : SqH H q xs) (a : DqAll (· ≠ s) H xs ds) (l : ds.length ≤ 1000) (sh : ∀ d ∈ ds, ShortT d) (ne : ds ≠ []) (g : goT ns ds [] = some i) : BadG s ns H (.ref q.2) i (some ds) :=
  ⟨⟨q, xs, rfl, n, h, a⟩, (fun es e => by cases e; exact ⟨l, sh⟩), (if_neg ne).trans g⟩
theorem go_bad {ns : List Int} {d : PyData} {ds : List PyData} (h : isSeatO ns (oT d) = false) : goT ns (d :: ds) [] = some 0 := by
  show (if isSeatO ns (oT d) = true ∧ intsD d ∉ [] then _ else _) = _
  rw [if_neg (fun z => by rw [h] at z; cases z.1)]
  rfl
theorem oT_ints (ps : List Int) : oT (iT ps) = some (ps.map some) := by
  show some ((ps.map PyData.int).map intD) = _
  rw [List.map_map]
  rfl
theorem go_good {ns p : List Int} {d : PyData} {ds : List PyData} (sp : SeatOk ns p) (h : isSeatO ns (oT d) = false ∨ d = iT p) : goT ns (iT p :: d :: ds) [] = some 1 := by
  have is : isSeatO ns (oT (iT p)) = true := by rw [oT_ints]; exact isSeat_ok sp
  show (if isSeatO ns (oT (iT p)) = true ∧ intsD (iT p) ∉ [] then goT ns (d :: ds) ([] ++ [intsD (iT p)]) else _) = _
  rw [if_pos ⟨is, by simp⟩, intsD_is]
  show (if isSeatO ns (oT d) = true ∧ intsD d ∉ [] ++ [p] then _ else _) = _
  rw [if_neg]
  · rfl
  · rintro ⟨a, b⟩
    rcases h with h | rfl
    · rw [h] at a
      cases a
    · exact b (by rw [intsD_is]; simp)
theorem not_seat_len {ns : List Int} {ds : List PyData} (h : ds.length ≠ ns.length) : isSeatO ns (oT (.tuple ds)) = false := by
  show (decide ((ds.map intD).length = ns.length) && _) = false
  rw [List.length_map, decide_eq_false h, Bool.false_and]
theorem it_inj {a b : List Int} (h : iT a = iT b) : a = b := by
  injection h with h
  have := congrArg (List.filterMap intD) h
  rwa [fm_ints, fm_ints] at this
theorem not_seat_odd {ns : List Int} {ds : List PyData} {e : PyData} (he : e ∈ ds) (n : intD e = none) : isSeatO ns (oT (.tuple ds)) = false := by
  cases h : isSeatO ns (oT (.tuple ds)) with
  | false => rfl
  | true =>
    obtain ⟨ps, e1, _⟩ := seat_ints h
    injection e1 with e1
    rw [e1] at he
    obtain ⟨i, _, rfl⟩ := List.mem_map.mp he
    cases n
theorem not_seat_sizes {ns : List Int} (ne : ns ≠ []) : isSeatO ns (oT (iT ns)) = false := by
  cases h : isSeatO ns (oT (iT ns)) with
  | false => rfl
  | true =>
    obtain ⟨ps, e1, sp⟩ := seat_ints h
    obtain rfl := it_inj e1
    cases ns with
    | nil => exact absurd rfl ne
    | cons n r =>
      have := sp.1.2
      omega
theorem last_seat : ∀ {ns : List Int}, (∀ n ∈ ns, 1 ≤ n) → SeatOk ns (ns.map fun n => n - 1)
  | [], _ => True.intro
  | n :: ns, o => ⟨⟨by have := o n List.mem_cons_self; show 0 ≤ n - 1; omega, by show n - 1 < n; omega⟩, last_seat fun m hm => o m (List.mem_cons_of_mem _ hm)⟩
theorem short_tup {ds : List PyData} (l : ds.length ≤ 1000) : ShortT (.tuple ds) := fun es e => by cases e; exact l
theorem short_no {d : PyData} (h : tupD d = none) : ShortT d := fun es e => by rw [h] at e; cases e

theorem lam_updl {X : Cx} {k : Nat} {H : Hp} {f l : Addr} {xs ys : List V} {tb : XK → TE} (hl : H l = some (.lst xs)) (h : CG.LamAt X k H f tb) : CG.LamAt X k (upd H l (.lst ys)) f tb := by
  obtain ⟨pa, bo, sc, c', a1, a2, a3⟩ := h
  refine ⟨pa, bo, sc, c', ?_, ?_, a3⟩
  · rw [upd_ne (fun z => by rw [z, hl] at a1; exact nomatch (show HO.lst _ = HO.ext _ from Option.some.inj a1))]
    exact a1
  · rw [upd_ne (fun z => by rw [z, hl] at a2; exact nomatch (show HO.lst _ = HO.ext _ from Option.some.inj a2))]
    exact a2
theorem lam_mono {X : Cx} {k : Nat} {H G : Hp} {f : Addr} {tb : XK → TE} (e : Ex H G) (h : CG.LamAt X k H f tb) : CG.LamAt X k G f tb := h.ext (LamX.ExtN.of e)
theorem tabs_updl {T : List (Addr × Str)} {H : Hp} {l : Addr} {xs ys : List V} (hl : H l = some (.lst xs)) (t : LamX.Tabs T H) : LamX.Tabs T (upd H l (.lst ys)) := fun p hp => by
  obtain ⟨ps, h1, h2, h3⟩ := t p hp
  refine ⟨ps, ?_, h2, fun pos cv hc => ?_⟩
  · rw [upd_ne (fun z => by rw [z, hl] at h1; cases h1)]
    exact h1
  · obtain ⟨c, e1, e2⟩ := h3 pos cv hc
    refine ⟨c, e1, ?_⟩
    rw [upd_ne (fun z => by rw [z, hl] at e2; exact nomatch (show HO.lst _ = HO.ext _ from Option.some.inj e2))]
    exact e2
theorem en_updl {H G : Hp} {l : Addr} {o : HO} (e : LamX.ExtN H G) (n : H l = none) : LamX.ExtN H (upd G l o) := fun c u q nt => by
  rw [upd_ne (ne_of_none q n)]
  exact e c u q nt
/-- all but the tables stays, and a is new -/
def EA (a : Addr) (H G : Hp) : Prop := ∀ c o, (∀ ps, o ≠ HO.tbl ps) → H c = some o → G c = some o ∧ c ≠ a
theorem EA.start {a : Addr} {H G G2 : Hp} (e : LamX.ExtN H G) (n : G a = none) (x : Ex G G2) : EA a H G2 := fun c o nt h => ⟨x _ _ (e c o h nt), ne_of_none (e c o h nt) n⟩
theorem EA.ext {a : Addr} {H G G2 : Hp} (h : EA a H G) (e : LamX.ExtN G G2) : EA a H G2 := fun c o nt q => ⟨e _ _ (h c o nt q).1 nt, (h c o nt q).2⟩
theorem EA.upd {a : Addr} {H G : Hp} {o : HO} (h : EA a H G) : EA a H (upd G a o) := fun c u nt q => ⟨by rw [upd_ne (h c u nt q).2]; exact (h c u nt q).1, (h c u nt q).2⟩
theorem EA.xn {a s : Addr} {H G : Hp} (h : EA a H G) : XN s H G := fun c o _ nt q => (h c o nt q).1
theorem EA.src {a s : Addr} {H G : Hp} (h : EA a H G) (src : Src H s) : Src G s := by
  obtain ⟨x, y, z, e⟩ := src
  exact ⟨x, y, z, (h _ _ (by intro _ q; cases q) e).1⟩
theorem Dq.xn {s : Addr} {H H2 : Hp} {v : V} {d : PyData} (src : Src H s) (x : XN s H H2) (q : Dq (· ≠ s) H v d) : Dq (· ≠ s) H2 v d := q.to (fun a xs b h => ⟨x.lst b h, b⟩) (fun a xs h => x.tup src h) (fun a h => x _ _ (fun z => by
  obtain ⟨_, _, _, e⟩ := src
  rw [z, e] at h
  cases h) (fun _ z => nomatch z) h)
theorem NoSeq.xn {s : Addr} {H H2 : Hp} {v : V} (src : Src H s) (x : XN s H H2) (h : NoSeq H v) : NoSeq H2 v := h.to (fun a kvs e => x _ _ (fun z => by
  obtain ⟨_, _, _, q⟩ := src
  rw [z, q] at e
  cases e) (fun _ z => nomatch z) e) (fun a kvs e => x _ _ (fun z => by
  obtain ⟨_, _, _, q⟩ := src
  rw [z, q] at e
  cases e) (fun _ z => nomatch z) e)
theorem DqAll.xn {s : Addr} {H H2 : Hp} {vs : List V} {ds : List PyData} (src : Src H s) (x : XN s H H2) (q : DqAll (· ≠ s) H vs ds) : DqAll (· ≠ s) H2 vs ds := q.to (fun a xs b h => ⟨x.lst b h, b⟩) (fun a xs h => x.tup src h) (fun a h => x _ _ (fun z => by
  obtain ⟨_, _, _, e⟩ := src
  rw [z, e] at h
  cases h) (fun _ z => nomatch z) h)
theorem BadG.xn {s : Addr} {ns : List Int} {H H2 : Hp} {x : V} {i : Int} {od : Option (List PyData)} (src : Src H s) (xb : XN s H H2) (h : BadG s ns H x i od) : BadG s ns H2 x i od := by
  refine ⟨?_, h.bd, h.due⟩
  have g := h.here
  cases od with
  | none => exact NoSeq.xn src xb g
  | some ds =>
    obtain ⟨q, xs, rfl, n, a, b⟩ := g
    refine ⟨q, xs, rfl, n, ?_, b.xn src xb⟩
    obtain ⟨b2, q⟩ := q
    cases b2
    · exact xb.lst (n rfl) a
    · exact xb.tup src (show H q = some (.tup xs) from a)

/-- data that is no seat of a table -/
structure BadS (ns : List Int) (d : PyData) : Prop where
  sh : Shn d
  no : isSeatO ns (oT d) = false
  short : ShortT d
theorem badS_any {ns : List Int} {d : PyData} (h : Shn d) (e : tupD d = none) : BadS ns d := ⟨h, by unfold oT; rw [e]; rfl, fun es z => by rw [e] at z; cases z⟩
theorem badS_len {ns : List Int} {ds : List PyData} (h : Shn (.tuple ds)) (l : ds.length ≠ ns.length) (l2 : ds.length ≤ 1000) : BadS ns (.tuple ds) := ⟨h, by
  show (decide ((ds.map intD).length = ns.length) && _) = false
  rw [List.length_map, decide_eq_false l, Bool.false_and], fun es z => by obtain rfl := Option.some.inj z; exact l2⟩
theorem badS_at {ns : List Int} {ds : List PyData} {j : Nat} {o : PyData} {n : Int} (h : Shn (.tuple ds)) (l2 : ds.length ≤ 1000) (ho : ds[j]? = some o) (hn : ns[j]? = some n) (b : between (intD o) 0 (n - 1) = false) : BadS ns (.tuple ds) := ⟨h, by
  show (_ && (List.zipWith (fun o n => between o 0 (n - 1)) (ds.map intD) ns).all id) = false
  have : (List.zipWith (fun o n => between o 0 (n - 1)) (ds.map intD) ns).all id = false := by
    rw [List.all_eq_false]
    refine ⟨false, List.mem_of_getElem? (i := j) ?_, by simp⟩
    rw [List.getElem?_zipWith, List.getElem?_map, ho, hn]
    show some (between (intD o) 0 (n - 1)) = some false
    rw [b]
  rw [this, Bool.and_false], fun es z => by obtain rfl := Option.some.inj z; exact l2⟩

theorem DqAll.mem {B : Addr → Prop} {H : Hp} : ∀ {xs : List V} {ds : List PyData} {v : V}, DqAll B H xs ds → v ∈ xs → ∃ d ∈ ds, Dq B H v d
  | _, _, _, .nil, h => nomatch h
  | _, _, _, .cons q t, h => by
    rcases List.mem_cons.mp h with rfl | h
    · exact ⟨_, List.mem_cons_self, q⟩
    · obtain ⟨d, hd, q⟩ := t.mem h
      exact ⟨d, List.mem_cons_of_mem _ hd, q⟩
theorem s_word {x : Str} (h : ((reprText x).cps.toList.all fun c => decide (c < 0x110000)) = true) (l : (reprText x).length ≤ 2000) : Sx 1 2000 (.str x) ∧ Sk (PyData.str x).shown := ⟨⟨rfl, by rw [PyData.shown_str]; exact l, by simp only [PyData.depth]; omega⟩, sk_word h⟩
theorem s_none : Sx 1 2000 .none ∧ Sk PyData.none.shown := ⟨sx_none.up (by decide) (Nat.le_refl _), sk_none⟩
section
variable {P : Program} {w : World} {K : PySem.W.Frag} {mg : Str → Option Value} {base : Heap}
def sp_law_bad_seat : Sp := fun vs H Q _ => ∃ (s l : Addr) (ns : List Int), vs = [.ref s, .ref l] ∧ Src H s ∧ H l = some (.tup (ns.map V.int)) ∧ SzOk ns ∧ (∀ n ∈ ns, n ≤ 10 ^ 30) ∧ ∀ v d H2, Dq (· ≠ s) H2 v d → BadS ns d → XB s H H2 → Src H2 s → Q v H2
theorem ok_law_bad_seat (T : TX K mg) : FnOk P w K mg base CX0 4 T.f_law_bad_seat T.fd_law_bad_seat ["_law_source_here", "_law_rings_here"] sp_law_bad_seat := by
  refine T.F_law_bad_seat.ok sc_law_bad_seat (fun vs H Q E h => ?_) (fun cdv A outer s H vs Q E hr h => ?_)
  · obtain ⟨s, l, ns, rfl, _⟩ := h
    rfl
  · obtain ⟨s, l, ns, rfl, src, hl, ok, le, k⟩ := h
    refine ⟨_, (pss_cons (ps_set (i := 2) sc_law_bad_seat.nd rfl (Or.inl rfl) (pe_call (ok_law_seat T) hr rfl T.m_law_seat T.F_law_seat.kp T.b_law_seat .nil pass0 (pa_cons (pv 0) (pa_cons (pv 1) pa_nil)))) (pss_cons (ps_set (i := 3) sc_law_bad_seat.nd rfl (Or.inl rfl) (pe_lst (pa_cons pe_non (pa_cons pe_int (pa_cons (pe_callTy call_list_of (by rfl) T.z_list (by decide +kernel) (pa_cons (pv 2) pa_nil)) (pa_cons (pe_op (r := rCatA K) op_catA (pv 2) (pe_tup (pa_cons pe_int pa_nil))) (pa_cons (pe_slice sl_tupA (pv 2) (po_some pe_int) po_none) (pa_cons (pe_op (r := rCatA K) op_catA (pe_tup (pa_cons (pe_ix ix_tup (pv 1) pe_int (fun _ _ => rfl)) pa_nil)) (pe_slice sl_tupA (pv 2) (po_some pe_int) po_none)) (pa_cons (pe_op (r := rCatA K) op_catA (pe_tup (pa_cons (pe_un un_neg pe_int) pa_nil)) (pe_slice sl_tupA (pv 2) (po_some pe_int) po_none)) (pa_cons (pe_op (r := rCatA K) op_catA (pe_tup (pa_cons pe_bl pa_nil)) (pe_slice sl_tupA (pv 2) (po_some pe_int) po_none)) pa_nil)))))))))) (pss_one (ps_ret (pe_call (ok_law_one T) hr rfl T.m_law_one T.F_law_one.kp T.b_law_one .nil pass0 (pa_cons (pv 0) (pa_cons (pe_op (r := rCatR K) op_catR (pv 3) (pe_lst (pa_cons (pe_op (r := rCatA K) op_catA (pe_tup (pa_cons pe_non pa_nil)) (pe_slice sl_tupA (pv 2) (po_some pe_int) po_none)) (pa_cons (pe_op (r := rCatA K) op_catA (pe_tup (pa_cons pe_str pa_nil)) (pe_slice sl_tupA (pv 2) (po_some pe_int) po_none)) (pa_cons pe_str (pa_cons pe_dnewK pa_nil)))))) pa_nil))))))), ?_⟩
    have l4 := ok.le
    have lp : 1 ≤ ns.length := List.length_pos_iff.mpr ok.pos
    refine ⟨_, rfl, _, rfl, s, l, ns, rfl, src, hl, ok, le, fun g gs H1 ng hg sk xb1 src1 => ?_⟩
    have hl1 := tup_xb src hl xb1
    have lg : gs.length = ns.length := sk.len
    dsimp only [gName]
    unfold tNoPart
    refine ⟨_, rfl, g, _, rfl, .inr (SqT.of hg), ?_⟩
    (intro la nla; generalize hGla : upd _ la _ = K1; have eK1 := exG hGla nla; have hla := atG hGla; clear hGla)
    have hg1 := eK1 _ _ hg
    refine ⟨_, rfl, slen rfl, ?_⟩
    (intro z1 nz1; generalize hGz1 : upd _ z1 _ = K2; have eK2 := exG hGz1 nz1; have hz1 := atG hGz1; clear hGz1)
    refine cat_tup (eK2 _ _ hg1) hz1 (by rw [List.length_map]; exact Nat.le_trans (show gs.length + 1 ≤ 10 by omega) (by decide)) fun t3 K3 e3 ht3 => ?_
    have hg3 := (ext eK2 e3) _ _ hg1
    refine ⟨_, rfl, ((1 : Nat) : Int), rfl, sl_ints hg3 fun t4 K4 e4 ht4 => ?_⟩
    rw [cut_from] at ht4
    have hg4 := e4 _ _ hg3
    have hl4 := (ext eK1 (ext eK2 (ext e3 e4))) _ _ hl1
    have hn0 : (ns.map V.int)[0]? = some (V.int (ns[0]'(by omega))) := by rw [List.getElem?_map, List.getElem?_eq_getElem (by omega)]; rfl
    refine ⟨_, rfl, l, _, _, _, rfl, rfl, SqT.of hl4, atI_nn hn0, slen rfl, ?_⟩
    (intro z2 nz2; generalize hGz2 : upd _ z2 _ = K5; have eK5 := exG hGz2 nz2; have hz2 := atG hGz2; clear hGz2)
    have hg5 := eK5 _ _ hg4
    refine ⟨_, rfl, ((1 : Nat) : Int), rfl, sl_ints hg5 fun t6 K6 e6 ht6 => ?_⟩
    rw [cut_from] at ht6
    refine cat_tup (e6 _ _ hz2) ht6 (by rw [List.length_drop, List.length_map]; exact Nat.le_trans (show 1 + (gs.length - 1) ≤ 10 by omega) (by decide)) fun t7 K7 e7 ht7 => ?_
    have hg7 := (ext e6 e7) _ _ hg5
    refine ⟨_, rfl, slen rfl, ?_⟩
    (intro z3 nz3; generalize hGz3 : upd _ z3 _ = K8; have eK8 := exG hGz3 nz3; have hz3 := atG hGz3; clear hGz3)
    have hg8 := eK8 _ _ hg7
    refine ⟨_, rfl, ((1 : Nat) : Int), rfl, sl_ints hg8 fun t9 K9 e9 ht9 => ?_⟩
    rw [cut_from] at ht9
    refine cat_tup (e9 _ _ hz3) ht9 (by rw [List.length_drop, List.length_map]; exact Nat.le_trans (show 1 + (gs.length - 1) ≤ 10 by omega) (by decide)) fun ta Ka ea hta => ?_
    have hga := (ext e9 ea) _ _ hg8
    refine ⟨slen rfl, ?_⟩
    (intro z4 nz4; generalize hGz4 : upd _ z4 _ = Kb; have eKb := exG hGz4 nz4; have hz4 := atG hGz4; clear hGz4)
    have hgb := eKb _ _ hga
    refine ⟨_, rfl, ((1 : Nat) : Int), rfl, sl_ints hgb fun tc Kc ec htc => ?_⟩
    rw [cut_from] at htc
    refine cat_tup (ec _ _ hz4) htc (by rw [List.length_drop, List.length_map]; exact Nat.le_trans (show 1 + (gs.length - 1) ≤ 10 by omega) (by decide)) fun td Kd ed htd => ?_
    have hgd := (ext ec ed) _ _ hgb
    refine ⟨slen rfl, ?_⟩
    (intro wl nwl; generalize hGwl : upd _ wl _ = Ke; have eKe := exG hGwl nwl; have hwl := atG hGwl; clear hGwl)
    have hge := eKe _ _ hgd
    dsimp only [gName]
    refine ⟨_, rfl, _, rfl, slen rfl, ?_⟩
    (intro z5 nz5; generalize hGz5 : upd _ z5 _ = Kf; have eKf := exG hGz5 nz5; have hz5 := atG hGz5; clear hGz5)
    have hgf := eKf _ _ hge
    refine ⟨_, rfl, ((1 : Nat) : Int), rfl, sl_ints hgf fun tg Kg eg htg => ?_⟩
    rw [cut_from] at htg
    refine cat_tup (eg _ _ hz5) htg (by rw [List.length_drop, List.length_map]; exact Nat.le_trans (show 1 + (gs.length - 1) ≤ 10 by omega) (by decide)) fun th Kh eh hth => ?_
    have hgh := (ext eg eh) _ _ hgf
    refine ⟨slen rfl, ?_⟩
    (intro z6 nz6; generalize hGz6 : upd _ z6 _ = Ki; have eKi := exG hGz6 nz6; have hz6 := atG hGz6; clear hGz6)
    have hgi := eKi _ _ hgh
    refine ⟨_, rfl, ((1 : Nat) : Int), rfl, sl_ints hgi fun tj Kj ej htj => ?_⟩
    rw [cut_from] at htj
    refine cat_tup (ej _ _ hz6) htj (by rw [List.length_drop, List.length_map]; exact Nat.le_trans (show 1 + (gs.length - 1) ≤ 10 by omega) (by decide)) fun tk Kk ek htk => ?_
    refine fun d5 nd5 => ?_
    generalize hG : upd Kk d5 _ = Km
    have eKm := exG hG nd5
    have hd5 := atG hG
    clear hG
    refine ⟨slen rfl, ?_⟩
    (intro wm nwm; generalize hGwm : upd _ wm _ = Kn; have eKn := exG hGwm nwm; have hwm := atG hGwm; clear hGwm)
    refine ⟨wl, wm, _, _, rfl, rfl, SqL.of ((ext eKf (ext eg (ext eh (ext eKi (ext ej (ext ek (ext eKm eKn))))))) _ _ hwl), SqL.of hwm, (by show 8 + 4 ≤ _; decide), ?_⟩
    (intro wo nwo; generalize hGwo : upd _ wo _ = Ko; have eKo := exG hGwo nwo; have hwo := atG hGwo; clear hGwo)
    dsimp only [List.cons_append, List.nil_append] at hwo
    have vn := ext eKn eKo
    have vm := ext eKm vn
    have vk := ext ek vm
    have vj := ext ej vk
    have vi := ext eKi vj
    have vh := ext eh vi
    have vg := ext eg vh
    have vf := ext eKf vg
    have ve := ext eKe vf
    have vd := ext ed ve
    have vc := ext ec vd
    have vb := ext eKb vc
    have va := ext ea vb
    have v9 := ext e9 va
    have v8 := ext eK8 v9
    have v7 := ext e7 v8
    have v6 := ext e6 v7
    have v5 := ext eK5 v6
    have v4 := ext e4 v5
    have v3 := ext e3 v4
    have v2 := ext eK2 v3
    have v1 := ext eK1 v2
    have srco := src1.mono v1
    have nlas := src1.ne nla
    have nwos : wo ≠ s := fun z => by
      obtain ⟨_, _, _, h⟩ := srco
      rw [z, h] at hwo
      have := congrArg List.length (HO.lst.inj (Option.some.inj hwo))
      simp at this
    have sg : ∀ x ∈ gs, x.natAbs < 2 ^ 300 := fun x hx => by
      obtain ⟨i, hi⟩ := List.getElem?_of_mem hx
      have il := (List.getElem?_eq_some_iff.mp hi).1
      have hn := List.getElem?_eq_getElem (show i < ns.length by omega)
      obtain ⟨h0, h1⟩ := sk.at hn hi
      have := le _ (List.mem_of_getElem? hn)
      exact Nat.lt_of_le_of_lt (show x.natAbs ≤ 10 ^ 30 by omega) (by decide +kernel)
    have lr : ∀ (o : PyData), ([o] ++ (gs.drop 1).map PyData.int).length ≤ 10 := fun o => by
      rw [List.length_append, List.length_map, List.length_drop]
      show 1 + (gs.length - 1) ≤ 10
      omega
    have qr : ∀ {G : Hp} {v : V} {o : PyData}, Dq (· ≠ s) G v o → DqAll (· ≠ s) G ([v] ++ (gs.map V.int).drop 1) ([o] ++ (gs.drop 1).map PyData.int) := fun q => by
      rw [← List.map_drop]
      exact .cons q (DqAll.ints _)
    have sr : ∀ {o : PyData}, (Sx 1 2000 o ∧ Sk o.shown) → ∀ e ∈ [o] ++ (gs.drop 1).map PyData.int, Sx 1 2000 e ∧ Sk e.shown := fun ho e he => by
      rcases List.mem_append.mp he with he | he
      · rw [List.mem_singleton.mp he]
        exact ho
      · exact s_ints (fun x hx => sg x (List.mem_of_mem_drop hx)) e he
    have n0 : ns[0]? = some (ns[0]'(by omega)) := List.getElem?_eq_getElem (by omega)
    have n0b := le _ (List.mem_of_getElem? n0)
    have n01 := ok.one _ (List.mem_of_getElem? n0)
    generalize ns[0]'(by omega) = n at n0 n0b n01 hz2 ht7
    have sgl : ∀ e ∈ gs.map PyData.int, Sx 1 2000 e ∧ Sk e.shown := s_ints sg
    have all : DqAll (· ≠ s) Ko [V.non, .int 0, .ref la, .ref t3, .ref t4, .ref t7, .ref ta, .ref td, .ref th, .ref tk, .str "0", .ref d5] [.none, .int 0, .list (gs.map PyData.int), .tuple (gs.map PyData.int ++ [.int 0]), .tuple ((gs.drop 1).map PyData.int), .tuple ([.int n] ++ (gs.drop 1).map PyData.int), .tuple ([.int (-1)] ++ (gs.drop 1).map PyData.int), .tuple ([.bool true] ++ (gs.drop 1).map PyData.int), .tuple ([.none] ++ (gs.drop 1).map PyData.int), .tuple ([.str "0"] ++ (gs.drop 1).map PyData.int), .str "0", .dict []] :=
      .cons .non (.cons (.int 0) (.cons (.lst (v2 _ _ hla) nlas (DqAll.ints gs)) (.cons (.tup (v4 _ _ ht3) ((DqAll.ints gs).app (.cons (.int 0) .nil))) (.cons (.tup (v5 _ _ ht4) (by rw [← List.map_drop]; exact DqAll.ints _)) (.cons (.tup (v8 _ _ ht7) (qr (.int n)))
      (.cons (.tup (vb _ _ hta) (qr (.int (-1)))) (.cons (.tup (ve _ _ htd) (qr (.bl true))) (.cons (.tup (vi _ _ hth) (qr .non)) (.cons (.tup (vm _ _ htk) (qr (.str _))) (.cons (.str _) (.cons (.emp (vn _ _ hd5)) .nil)))))))))))
    have bads : ∀ d ∈ ([.none, .int 0, .list (gs.map PyData.int), .tuple (gs.map PyData.int ++ [.int 0]), .tuple ((gs.drop 1).map PyData.int), .tuple ([.int n] ++ (gs.drop 1).map PyData.int), .tuple ([.int (-1)] ++ (gs.drop 1).map PyData.int), .tuple ([.bool true] ++ (gs.drop 1).map PyData.int), .tuple ([.none] ++ (gs.drop 1).map PyData.int), .tuple ([.str "0"] ++ (gs.drop 1).map PyData.int), .str "0", .dict []] : List PyData), BadS ns d := fun d hd => by
      simp only [List.mem_cons, List.not_mem_nil, or_false] at hd
      rcases hd with rfl | rfl | rfl | rfl | rfl | rfl | rfl | rfl | rfl | rfl | rfl | rfl
      · exact badS_any shn_none rfl
      · exact badS_any (shn_of (s_int (by decide))) rfl
      · exact badS_any (shn_list (by rw [List.length_map]; omega) sgl) rfl
      · exact badS_len (shn_tup (by rw [List.length_append, List.length_map]; show gs.length + 1 ≤ 10; omega) (s_snoc sgl (s_int (by decide)))) (by rw [List.length_append, List.length_map]; show gs.length + 1 ≠ _; omega) (by rw [List.length_append, List.length_map]; show gs.length + 1 ≤ _; omega)
      · exact badS_len (shn_tup (by rw [List.length_map, List.length_drop]; omega) (s_ints fun x hx => sg x (List.mem_of_mem_drop hx))) (by rw [List.length_map, List.length_drop]; omega) (by rw [List.length_map, List.length_drop]; omega)
      · refine badS_at (shn_tup (lr _) (sr (s_int (Nat.lt_of_le_of_lt (show n.natAbs ≤ 10 ^ 30 by omega) (by decide +kernel))))) (Nat.le_trans (lr _) (by decide)) rfl n0 ?_
        show (decide (0 ≤ n) && decide (n ≤ n - 1)) = false
        rw [decide_eq_false (p := n ≤ n - 1) (by omega), Bool.and_false]
      · exact badS_at (shn_tup (lr _) (sr (s_int (by decide)))) (Nat.le_trans (lr _) (by decide)) rfl n0 rfl
      · exact badS_at (shn_tup (lr _) (sr (s_bool true))) (Nat.le_trans (lr _) (by decide)) rfl n0 rfl
      · exact badS_at (shn_tup (lr _) (sr s_none)) (Nat.le_trans (lr _) (by decide)) rfl n0 rfl
      · exact badS_at (shn_tup (lr _) (sr (s_word (by decide +kernel) (by decide +kernel)))) (Nat.le_trans (lr _) (by decide)) rfl n0 rfl
      · exact badS_any (shn_word (by decide +kernel) (by decide +kernel)) rfl
      · exact badS_any shn_emp rfl
    refine ⟨s, wo, _, rfl, srco, hwo, nwos, (by simp), (by show 12 ≤ 1000; decide), fun v G hv xb srcG => ?_⟩
    obtain ⟨d, hd, q⟩ := all.mem hv
    exact k v d G (q.xb srco xb) (bads d hd) (xb1.trans ((XB.of v1).trans xb)) srcG
end

/-- the pair of targets and of the index of their fault -/
def PairT (s : Addr) (ns : List Int) (H : Hp) (v : V) : Prop := ∃ (r : Addr) (x : V) (i : Int) (od : Option (List PyData)), v = .ref r ∧ H r = some (.tup [x, .int i]) ∧ BadG s ns H x i od
theorem PairT.mono {s : Addr} {ns : List Int} {H H2 : Hp} {v : V} (e : Ex H H2) (h : PairT s ns H v) : PairT s ns H2 v := by
  obtain ⟨r, x, i, od, rfl, h1, h2⟩ := h
  exact ⟨r, x, i, od, rfl, e _ _ h1, h2.mono e⟩
theorem PairT.xb {s : Addr} {ns : List Int} {H H2 : Hp} {v : V} (src : Src H s) (xb : XB s H H2) (h : PairT s ns H v) : PairT s ns H2 v := by
  obtain ⟨r, x, i, od, rfl, h1, h2⟩ := h
  exact ⟨r, x, i, od, rfl, tup_xb src h1 xb, h2.xb src xb⟩
theorem go_app {ns : List Int} {ds : List PyData} : ∀ {tss seen : List (List Int)}, (∀ ts ∈ tss, SeatOk ns ts) → tss.Nodup → (∀ t ∈ tss, t ∉ seen) → goT ns (tss.map iT ++ ds) seen = goT ns ds (seen ++ tss)
  | [], seen, _, _, _ => by rw [List.append_nil]; rfl
  | t :: tss, seen, sk, nod, ns2 => by
    have is : isSeatO ns (oT (iT t)) = true := by rw [oT_ints]; exact isSeat_ok (sk t List.mem_cons_self)
    obtain ⟨n1, n2⟩ := List.nodup_cons.mp nod
    show (if isSeatO ns (oT (iT t)) = true ∧ intsD (iT t) ∉ seen then goT ns (tss.map iT ++ ds) (seen ++ [intsD (iT t)]) else _) = _
    rw [intsD_is, if_pos ⟨is, ns2 t List.mem_cons_self⟩, go_app (fun u hu => sk u (List.mem_cons_of_mem _ hu)) n2 (fun u hu z => ?_), List.append_assoc]
    · rfl
    · rcases List.mem_append.mp z with z | z
      · exact ns2 u (List.mem_cons_of_mem _ hu) z
      · rw [List.mem_singleton.mp z] at hu
        exact n1 hu
theorem go_stop {ns : List Int} {d : PyData} {ds : List PyData} {seen : List (List Int)} (h : isSeatO ns (oT d) = false ∨ ∃ p ∈ seen, d = iT p) : goT ns (d :: ds) seen = some (seen.length : Int) := by
  show (if isSeatO ns (oT d) = true ∧ intsD d ∉ seen then _ else _) = _
  rw [if_neg]
  rintro ⟨a, b⟩
  rcases h with h | ⟨p, hp, rfl⟩
  · rw [h] at a
    cases a
  · exact b (by rw [intsD_is]; exact hp)
theorem RowsR.dq {B : Addr → Prop} {H : Hp} {xs : List V} {tss : List (List Int)} (h : RowsR H xs tss) : DqAll B H xs (tss.map iT) := by
  induction h with
  | nil => exact .nil
  | cons q _ ih =>
    obtain ⟨r, rfl, hr⟩ := q
    exact .cons (Dq.ints hr) ih
theorem rows_take {H : Hp} : ∀ (k : Nat) {xs : List V} {tss : List (List Int)}, RowsR H xs tss → RowsR H (xs.take k) (tss.take k)
  | 0, _, _, _ => .nil
  | _ + 1, _, _, .nil => .nil
  | k + 1, _, _, .cons h t => .cons h (rows_take k t)
theorem short_seat {ns ps : List Int} (l4 : ns.length ≤ 4) (sk : SeatOk ns ps) : ShortT (iT ps) := fun es e => by
  obtain rfl := Option.some.inj e
  rw [List.length_map, sk.len]
  omega
section
variable {P : Program} {w : World} {K : PySem.W.Frag} {mg : Str → Option Value} {base : Heap}
def sp_law_bad_targets : Sp := fun vs H Q _ => ∃ (s l : Addr) (ns : List Int), vs = [.ref s, .ref l] ∧ Src H s ∧ H l = some (.tup (ns.map V.int)) ∧ SzOk ns ∧ (∀ n ∈ ns, n ≤ 10 ^ 30) ∧ ∀ v H2, PairT s ns H2 v → XB s H H2 → Src H2 s → Q v H2
theorem ok_law_bad_targets (T : TX K mg) : FnOk P w K mg base CX0 5 T.f_law_bad_targets T.fd_law_bad_targets ["_law_source_here", "_law_rings_here"] sp_law_bad_targets := by
  refine T.F_law_bad_targets.ok sc_law_bad_targets (fun vs H Q E h => ?_) (fun cdv A outer s H vs Q E hr h => ?_)
  · obtain ⟨s, l, ns, rfl, _⟩ := h
    rfl
  · obtain ⟨s, l, ns, rfl, src, hl, ok, le, k⟩ := h
    refine ⟨_, (pss_cons (ps_set (i := 2) sc_law_bad_targets.nd rfl (Or.inl rfl) (pe_call (ok_law_seats T) hr rfl T.m_law_seats T.F_law_seats.kp T.b_law_seats .nil pass0 (pa_cons (pv 0) (pa_cons (pv 1) (pa_cons pe_int pa_nil))))) (pss_cons (ps_set (i := 3) sc_law_bad_targets.nd rfl (Or.inl rfl) (pe_call (ok_law_bad_seat T) hr rfl T.m_law_bad_seat T.F_law_bad_seat.kp T.b_law_bad_seat .nil pass0 (pa_cons (pv 0) (pa_cons (pv 1) pa_nil)))) (pss_cons (ps_set (i := 4) sc_law_bad_targets.nd rfl (Or.inl rfl) (pe_lst (pa_cons (pe_tup (pa_cons pe_non (pa_cons (pe_un un_neg pe_int) pa_nil))) (pa_cons (pe_tup (pa_cons (pe_lst pa_nil) (pa_cons (pe_un un_neg pe_int) pa_nil))) (pa_cons (pe_tup (pa_cons (pe_tup pa_nil) (pa_cons (pe_un un_neg pe_int) pa_nil))) (pa_cons (pe_tup (pa_cons pe_dnewK (pa_cons (pe_un un_neg pe_int) pa_nil))) (pa_cons (pe_tup (pa_cons (pe_op (r := rCatR K) op_catR (pv 2) (pe_lst (pa_cons (pv 3) pa_nil))) (pa_cons (pe_callB call_len_seq (by rfl) T.z_len (by decide +kernel) (pa_cons (pv 2) pa_nil)) pa_nil))) (pa_cons (pe_tup (pa_cons (pe_op (r := rCatR K) op_catR (pe_lst (pa_cons (pv 3) pa_nil)) (pv 2)) (pa_cons pe_int pa_nil))) pa_nil)))))))) (pss_cons (ps_set (i := 4) sc_law_bad_targets.nd rfl (Or.inl rfl) (pe_op (r := rCatR K) op_catR (pv 4) (pe_lst (pa_cons (pe_tup (pa_cons (pe_op (r := rCatR K) op_catR (pe_op (r := rCatR K) op_catR (pv 2) (pe_slice sl_list (pv 2) po_none (po_some pe_int))) (pe_lst (pa_cons (pv 3) pa_nil))) (pa_cons (pe_callB call_len_seq (by rfl) T.z_len (by decide +kernel) (pa_cons (pv 2) pa_nil)) pa_nil))) (pa_cons (pe_tup (pa_cons (pe_op (r := rCatA K) op_catA (pe_callTy call_tuple_of (by rfl) T.z_tuple (by decide +kernel) (pa_cons (pv 2) pa_nil)) (pe_tup (pa_cons (pe_ix ix_list (pv 2) (pe_un un_neg pe_int) (fun _ _ => rfl)) pa_nil))) (pa_cons (pe_callB call_len_seq (by rfl) T.z_len (by decide +kernel) (pa_cons (pv 2) pa_nil)) pa_nil))) pa_nil))))) (pss_one (ps_ret (pe_call (ok_law_one T) (hr.mono (by decide)) rfl T.m_law_one T.F_law_one.kp T.b_law_one .nil pass0 (pa_cons (pv 0) (pa_cons (pv 4) pa_nil))))))))), ?_⟩
    have l4 := ok.le
    refine ⟨_, rfl, _, rfl, s, l, ns, 3, rfl, src, hl, ok, le, by decide, by decide, fun f tss H1 nf ra ne lt sks nod xb1 src1 => ?_⟩
    have nfs := src.ne nf
    have hl1 := tup_xb src hl xb1
    dsimp only [gName]
    refine ⟨_, rfl, _, rfl, s, l, ns, rfl, src1, hl1, ok, le, fun v d H2 qd bd xb2 src2 => ?_⟩
    obtain ⟨xs, hf, rr⟩ := ra.xb nfs src1 xb2
    have X2 := xb1.trans xb2
    have lxs := rr.len
    clear hl hl1 ra src1 src xb1 xb2
    dsimp only [gName]
    refine ⟨_, rfl, slen rfl, ?_⟩
    (intro p1 np1; generalize hGp1 : upd _ p1 _ = G1; have eG1 := exG hGp1 np1; have hp1 := atG hGp1; clear hGp1)
    refine ⟨slen rfl, ?_⟩
    (intro x2 nx2; generalize hGx2 : upd _ x2 _ = G2; have eG2 := exG hGx2 nx2; have hx2 := atG hGx2; clear hGx2)
    refine ⟨_, rfl, slen rfl, ?_⟩
    (intro p2 np2; generalize hGp2 : upd _ p2 _ = G3; have eG3 := exG hGp2 np2; have hp2 := atG hGp2; clear hGp2)
    refine ⟨slen rfl, ?_⟩
    (intro x3 nx3; generalize hGx3 : upd _ x3 _ = G4; have eG4 := exG hGx3 nx3; have hx3 := atG hGx3; clear hGx3)
    refine ⟨_, rfl, slen rfl, ?_⟩
    (intro p3 np3; generalize hGp3 : upd _ p3 _ = G5; have eG5 := exG hGp3 np3; have hp3 := atG hGp3; clear hGp3)
    refine fun d4 nd4 => ?_
    generalize hG : upd G5 d4 _ = G6
    have eG6 := exG hG nd4
    have hd4 := atG hG
    clear hG
    refine ⟨_, rfl, slen rfl, ?_⟩
    (intro p4 np4; generalize hGp4 : upd _ p4 _ = G7; have eG7 := exG hGp4 np4; have hp4 := atG hGp4; clear hGp4)
    have t7 := ext eG1 (ext eG2 (ext eG3 (ext eG4 (ext eG5 (ext eG6 eG7)))))
    refine ⟨_, rfl, _, rfl, slen rfl, ?_⟩
    (intro x5 nx5; generalize hGx5 : upd _ x5 _ = G8; have eG8 := exG hGx5 nx5; have hx5 := atG hGx5; clear hGx5)
    have t8 := ext t7 eG8
    refine ⟨f, x5, _, _, rfl, rfl, SqL.of (t8 _ _ hf), SqL.of hx5, (by rw [lxs]; exact Nat.le_trans (show tss.length + 1 ≤ 4 by omega) (by decide)), ?_⟩
    (intro y5 ny5; generalize hGy5 : upd _ y5 _ = G9; have eG9 := exG hGy5 ny5; have hy5 := atG hGy5; clear hGy5)
    have t9 := ext t8 eG9
    refine ⟨_, rfl, f, _, rfl, .inl (SqL.of (t9 _ _ hf)), slen rfl, ?_⟩
    (intro p5 np5; generalize hGp5 : upd _ p5 _ = Ga; have eGa := exG hGp5 np5; have hp5 := atG hGp5; clear hGp5)
    refine ⟨_, rfl, slen rfl, ?_⟩
    (intro x6 nx6; generalize hGx6 : upd _ x6 _ = Gb; have eGb := exG hGx6 nx6; have hx6 := atG hGx6; clear hGx6)
    have tb := ext t9 (ext eGa eGb)
    refine ⟨_, rfl, x6, f, _, _, rfl, rfl, SqL.of hx6, SqL.of (tb _ _ hf), (by rw [lxs]; exact Nat.le_trans (show 1 + tss.length ≤ 4 by omega) (by decide)), ?_⟩
    (intro y6 ny6; generalize hGy6 : upd _ y6 _ = Gc; have eGc := exG hGy6 ny6; have hy6 := atG hGy6; clear hGy6)
    refine ⟨slen rfl, ?_⟩
    (intro p6 np6; generalize hGp6 : upd _ p6 _ = Gd; have eGd := exG hGp6 np6; have hp6 := atG hGp6; clear hGp6)
    refine ⟨slen rfl, ?_⟩
    (intro wl nwl; generalize hGwl : upd _ wl _ = Ge; have eGe := exG hGwl nwl; have hwl := atG hGwl; clear hGwl)
    have te := ext tb (ext eGc (ext eGd eGe))
    have hfe := te _ _ hf
    dsimp only [gName]
    unfold tNoPart
    refine ⟨_, rfl, _, rfl, _, rfl, ((1 : Nat) : Int), rfl, f, _, rfl, SqL.of hfe, ?_⟩
    (intro x7 nx7; generalize hGx7 : upd _ x7 _ = Gf; have eGf := exG hGx7 nx7; have hx7 := atG hGx7; clear hGx7)
    rw [cut_to] at hx7
    refine ⟨f, x7, _, _, rfl, rfl, SqL.of (eGf _ _ hfe), SqL.of hx7, (by rw [List.length_take, lxs]; exact Nat.le_trans (show tss.length + min 1 tss.length ≤ 8 by omega) (by decide)), ?_⟩
    (intro y7 ny7; generalize hGy7 : upd _ y7 _ = Gg; have eGg := exG hGy7 ny7; have hy7 := atG hGy7; clear hGy7)
    refine ⟨_, rfl, slen rfl, ?_⟩
    (intro z7 nz7; generalize hGz7 : upd _ z7 _ = Gh; have eGh := exG hGz7 nz7; have hz7 := atG hGz7; clear hGz7)
    refine ⟨y7, z7, _, _, rfl, rfl, SqL.of (eGh _ _ hy7), SqL.of hz7, (by rw [List.length_append, List.length_take, lxs]; exact Nat.le_trans (show tss.length + min 1 tss.length + 1 ≤ 9 by omega) (by decide)), ?_⟩
    (intro w7 nw7; generalize hGw7 : upd _ w7 _ = Gi; have eGi := exG hGw7 nw7; have hw7 := atG hGw7; clear hGw7)
    have ti := ext eGf (ext eGg (ext eGh eGi))
    refine ⟨_, rfl, f, _, rfl, .inl (SqL.of (ti _ _ hfe)), slen rfl, ?_⟩
    (intro p7 np7; generalize hGp7 : upd _ p7 _ = Gj; have eGj := exG hGp7 np7; have hp7 := atG hGp7; clear hGp7)
    have tj := ext ti eGj
    obtain ⟨hss, tl, e1⟩ : ∃ hss tl, tss = hss ++ [tl] := by
      rcases List.eq_nil_or_concat tss with h | ⟨a, b, h⟩
      · exact absurd h ne
      · exact ⟨a, b, by rw [h, List.concat_eq_append]⟩
    obtain ⟨ys, u, e2, hu⟩ : ∃ ys r, xs = ys ++ [V.ref r] ∧ H2 r = some (.tup (tl.map V.int)) := RowsR.last (by rw [e1] at rr; exact rr)
    refine ⟨_, rfl, f, _, rfl, .inl ⟨SqL.of (tj _ _ hfe), ?_⟩⟩
    (intro x8 nx8; generalize hGx8 : upd _ x8 _ = Gk; have eGk := exG hGx8 nx8; have hx8 := atG hGx8; clear hGx8)
    have tk := ext tj eGk
    refine ⟨_, rfl, _, rfl, f, _, _, _, rfl, rfl, SqL.of (tk _ _ hfe), (by rw [e2]; exact atI_last _ _), slen rfl, ?_⟩
    (intro z8 nz8; generalize hGz8 : upd _ z8 _ = Gl; have eGl := exG hGz8 nz8; have hz8 := atG hGz8; clear hGz8)
    refine cat_tup (eGl _ _ hx8) hz8 (by rw [lxs]; exact Nat.le_trans (show tss.length + 1 ≤ 8 by omega) (by decide)) fun y8 Gm em hy8 => ?_
    have tm := ext tk (ext eGl em)
    refine ⟨_, rfl, f, _, rfl, .inl (SqL.of (tm _ _ hfe)), slen rfl, ?_⟩
    (intro p8 np8; generalize hGp8 : upd _ p8 _ = Gn; have eGn := exG hGp8 np8; have hp8 := atG hGp8; clear hGp8)
    refine ⟨slen rfl, ?_⟩
    (intro x9 nx9; generalize hGx9 : upd _ x9 _ = Go; have eGo := exG hGx9 nx9; have hx9 := atG hGx9; clear hGx9)
    have to := ext tm (ext eGn eGo)
    refine ⟨wl, x9, _, _, rfl, rfl, SqL.of (to _ _ hwl), SqL.of hx9, (by show 6 + 2 ≤ _; decide), ?_⟩
    (intro wo nwo; generalize hGwo : upd _ wo _ = Gp; have eGp := exG hGwo nwo; have hwo := atG hGwo; clear hGwo)
    dsimp only [List.cons_append, List.nil_append] at hwo
    dsimp only [gName]
    have vo := eGp
    have vn := ext eGo vo
    have vm := ext eGn vn
    have vl := ext em vm
    have vk := ext eGl vl
    have vj := ext eGk vk
    have vi := ext eGj vj
    have vh := ext eGi vi
    have vg := ext eGh vh
    have vf := ext eGg vg
    have ve := ext eGf vf
    have vd := ext eGe ve
    have vc := ext eGd vd
    have vb := ext eGc vc
    have va := ext eGb vb
    have v9 := ext eGa va
    have v8 := ext eG9 v9
    have v7 := ext eG8 v8
    have v6 := ext eG7 v7
    have v5 := ext eG6 v6
    have v4 := ext eG5 v5
    have v3 := ext eG4 v4
    have v2 := ext eG3 v3
    have v1 := ext eG2 v2
    have v0 := ext eG1 v1
    have srco := src2.mono v0
    have nx2 := (src2.mono eG1).ne nx2
    have ny5 := (src2.mono t8).ne ny5
    have ny6 := (src2.mono tb).ne ny6
    have nw7 := ((src2.mono te).mono (ext eGf (ext eGg eGh))).ne nw7
    have nwo := ((src2.mono te).mono to).ne nwo
    have rq : DqAll (· ≠ s) Gp xs (tss.map iT) := (rr.mono v0).dq
    have dq : Dq (· ≠ s) Gp v d := qd.mono v0
    have shg : ∀ e ∈ tss.map iT, ShortT e := fun e he => by
      obtain ⟨ts, hts, rfl⟩ := List.mem_map.mp he
      exact short_seat l4 (sks ts hts)
    have shd : ∀ es : List PyData, (∀ e ∈ es, ShortT e) → ∀ e ∈ es ++ [d], ShortT e := fun es h e he => by
      rcases List.mem_append.mp he with he | he
      · exact h e he
      · rw [List.mem_singleton.mp he]
        exact bd.short
    have lt3 : tss.length ≤ 3 := lt
    have il : ((xs.length : Nat) : Int) = ((tss.length : Nat) : Int) := by rw [lxs]
    have g0 : ∀ ds, goT ns (tss.map iT ++ ds) [] = goT ns ds tss := fun ds => by
      rw [go_app sks nod (by simp)]
      rfl
    have tlm : tl ∈ tss := by rw [e1]; simp
    have pall : ∀ z ∈ [V.ref p1, .ref p2, .ref p3, .ref p4, .ref p5, .ref p6, .ref p7, .ref p8], PairT s ns Gp z := fun z hz => by
      simp only [List.mem_cons, List.not_mem_nil, or_false] at hz
      rcases hz with rfl | rfl | rfl | rfl | rfl | rfl | rfl | rfl
      · exact ⟨_, _, _, _, rfl, v1 _ _ hp1, badg_no (.inl rfl)⟩
      · exact ⟨_, _, _, _, rfl, v3 _ _ hp2, badg_nil (q := (false, x2)) (fun _ => nx2) (v2 _ _ hx2)⟩
      · exact ⟨_, _, _, _, rfl, v5 _ _ hp3, badg_nil (q := (true, x3)) (fun z => nomatch z) (v4 _ _ hx3)⟩
      · exact ⟨_, _, _, _, rfl, v7 _ _ hp4, badg_no (.inr (.inr (.inr (.inr ⟨_, rfl, .inl ⟨_, v6 _ _ hd4⟩⟩))))⟩
      · refine ⟨_, _, _, _, rfl, va _ _ hp5, badg_go (q := (false, y5)) (fun _ => ny5) (v9 _ _ hy5) (rq.app (.cons dq .nil)) ?_ (shd _ shg) (by simp) ?_⟩
        · rw [List.length_append, List.length_map, List.length_singleton]
          omega
        · rw [g0, go_stop (.inl bd.no), il]
      · refine ⟨_, _, _, _, rfl, vd _ _ hp6, badg_go (q := (false, y6)) (fun _ => ny6) (vc _ _ hy6) (DqAll.app (.cons dq .nil) rq) ?_ (fun e he => ?_) (by simp) (go_bad bd.no)⟩
        · rw [List.length_append, List.length_map, List.length_singleton]
          omega
        · rcases List.mem_append.mp he with he | he
          · rw [List.mem_singleton.mp he]
            exact bd.short
          · exact shg e he
      · have hf0 : ∃ t0, tss.take 1 = [t0] ∧ t0 ∈ tss := by
          cases tss with
          | nil => exact absurd rfl ne
          | cons a b => exact ⟨a, rfl, List.mem_cons_self⟩
        obtain ⟨t0, f1, f2⟩ := hf0
        have rt : DqAll (· ≠ s) Gp (xs.take 1) ((tss.take 1).map iT) := ((rows_take 1 rr).mono v0).dq
        refine ⟨_, _, _, _, rfl, vj _ _ hp7, badg_go (q := (false, w7)) (fun _ => nw7) (vi _ _ hw7) ((rq.app rt).app (.cons dq .nil)) ?_ (shd _ fun e he => ?_) (by simp) ?_⟩
        · rw [List.length_append, List.length_append, List.length_map, List.length_map, List.length_take, List.length_singleton]
          omega
        · rcases List.mem_append.mp he with he | he
          · exact shg e he
          · obtain ⟨ts, hts, rfl⟩ := List.mem_map.mp he
            exact short_seat l4 (sks ts (List.mem_of_mem_take hts))
        · rw [List.append_assoc, g0, f1]
          show goT ns (iT t0 :: [d]) tss = _
          rw [go_stop (.inr ⟨t0, f2, rfl⟩), il]
      · refine ⟨_, _, _, _, rfl, vn _ _ hp8, badg_go (q := (true, y8)) (fun z => nomatch z) (vm _ _ hy8) (rq.app (.cons (Dq.ints (v0 _ _ hu)) .nil)) ?_ (fun e he => ?_) (by simp) ?_⟩
        · rw [List.length_append, List.length_map, List.length_singleton]
          omega
        · rcases List.mem_append.mp he with he | he
          · exact shg e he
          · rw [List.mem_singleton.mp he]
            exact short_seat l4 (sks tl tlm)
        · rw [g0, go_stop (.inr ⟨tl, tlm, rfl⟩), il]
    refine ⟨_, rfl, _, rfl, s, wo, _, rfl, srco, hwo, nwo, (by simp), (by show 8 ≤ 1000; decide), fun z G hz xb srcG => ?_⟩
    exact k z G ((pall z hz).xb srco xb) (X2.trans ((XB.of v0).trans xb)) srcG
end

/-- data that is no move -/
structure BadM (ns : List Int) (d : PyData) : Prop where
  no : movO ns d = false
  short : ShortM d
theorem short_any {d : PyData} (e : tupD d = none) : ShortT d := fun es z => by rw [e] at z; cases z
theorem short_of {ds : List PyData} (l : ds.length ≤ 1000) : ShortT (.tuple ds) := fun es z => by obtain rfl := Option.some.inj z; exact l
theorem badM_any {ns : List Int} {d : PyData} (e : tupD d = none) : BadM ns d := ⟨mov_not e, fun es z => by rw [e] at z; cases z⟩
theorem badM_len {ns : List Int} {ds : List PyData} (l : ds.length ≠ 2) (h : ∀ e ∈ ds, ShortT e) : BadM ns (.tuple ds) := ⟨mov_no rfl l, fun es z => by obtain rfl := Option.some.inj z; exact h⟩
theorem short_two {a b : PyData} (ha : ShortT a) (hb : ShortT b) : ShortM (.tuple [a, b]) := fun es z e he => by
  obtain rfl := Option.some.inj z
  simp only [List.mem_cons, List.not_mem_nil, or_false] at he
  rcases he with rfl | rfl
  · exact ha
  · exact hb
theorem badM_dir {ns : List Int} {a b : PyData} (ha : ShortT a) (hb : ShortT b) (h : isDirO (strD b) = false) : BadM ns (.tuple [a, b]) := ⟨by
  show (isCallO ns (oT a) && isDirO (strD b)) = false
  rw [h, Bool.and_false], short_two ha hb⟩
theorem badM_call {ns : List Int} {a b : PyData} (ha : ShortT a) (hb : ShortT b) (h : isCallO ns (oT a) = false) : BadM ns (.tuple [a, b]) := ⟨by
  show (isCallO ns (oT a) && isDirO (strD b)) = false
  rw [h, Bool.false_and], short_two ha hb⟩
theorem not_call_len {ns : List Int} {ds : List PyData} (h : ds.length ≠ ns.length) : isCallO ns (oT (.tuple ds)) = false := by
  show (decide ((ds.map intD).length = ns.length) && _) = false
  rw [List.length_map, decide_eq_false h, Bool.false_and]
theorem not_call_odd {ns : List Int} {ds : List PyData} {e : PyData} (he : e ∈ ds) (n : intD e = none) : isCallO ns (oT (.tuple ds)) = false := by
  cases h : isCallO ns (oT (.tuple ds)) with
  | false => rfl
  | true =>
    obtain ⟨ps, e1, _⟩ := call_ints h
    injection e1 with e1
    rw [e1] at he
    obtain ⟨i, _, rfl⟩ := List.mem_map.mp he
    cases n
section
variable {P : Program} {w : World} {K : PySem.W.Frag} {mg : Str → Option Value} {base : Heap}
def sp_law_bad_move : Sp := fun vs H Q _ => ∃ (s l : Addr) (ns : List Int), vs = [.ref s, .ref l] ∧ Src H s ∧ H l = some (.tup (ns.map V.int)) ∧ SzOk ns ∧ (∀ n ∈ ns, n ≤ 10 ^ 30) ∧ ∀ v d H2, Dq (· ≠ s) H2 v d → BadM ns d → XB s H H2 → Src H2 s → Q v H2
theorem ok_law_bad_move (T : TX K mg) : FnOk P w K mg base CX0 5 T.f_law_bad_move T.fd_law_bad_move ["_law_source_here", "_law_rings_here"] sp_law_bad_move := by
  refine T.F_law_bad_move.ok sc_law_bad_move (fun vs H Q E h => ?_) (fun cdv A outer s H vs Q E hr h => ?_)
  · obtain ⟨s, l, ns, rfl, _⟩ := h
    rfl
  · obtain ⟨s, l, ns, rfl, src, hl, ok, le, k⟩ := h
    refine ⟨_, (pss_cons (ps_set (i := 2) sc_law_bad_move.nd rfl (Or.inl rfl) (pe_call (ok_law_call T) hr rfl T.m_law_call T.F_law_call.kp T.b_law_call .nil pass0 (pa_cons (pv 0) (pa_cons (pv 1) pa_nil)))) (pss_cons (ps_set (i := 3) sc_law_bad_move.nd rfl (Or.inl rfl) (pe_lst (pa_cons pe_non (pa_cons (pv 2) (pa_cons (pe_tup (pa_cons (pv 2) pa_nil)) (pa_cons (pe_tup (pa_cons (pv 2) (pa_cons pe_str (pa_cons pe_int pa_nil)))) (pa_cons (pe_lst (pa_cons (pv 2) (pa_cons pe_str pa_nil))) (pa_cons (pe_tup (pa_cons (pv 2) (pa_cons pe_str pa_nil))) (pa_cons (pe_tup (pa_cons (pv 2) (pa_cons pe_str pa_nil))) (pa_cons (pe_tup (pa_cons (pv 2) (pa_cons pe_int pa_nil))) pa_nil)))))))))) (pss_cons (ps_set (i := 3) sc_law_bad_move.nd rfl (Or.inl rfl) (pe_op (r := rCatR K) op_catR (pv 3) (pe_lst (pa_cons (pe_tup (pa_cons (pv 2) (pa_cons pe_non pa_nil))) (pa_cons (pe_tup (pa_cons (pe_op (r := rCatA K) op_catA (pv 2) (pe_tup (pa_cons pe_int pa_nil))) (pa_cons pe_str pa_nil))) (pa_cons (pe_tup (pa_cons (pe_slice sl_tupA (pv 2) (po_some pe_int) po_none) (pa_cons pe_str pa_nil))) (pa_cons (pe_tup (pa_cons (pe_callTy call_list_of (by rfl) T.z_list (by decide +kernel) (pa_cons (pv 2) pa_nil)) (pa_cons pe_str pa_nil))) pa_nil))))))) (pss_cons (ps_set (i := 3) sc_law_bad_move.nd rfl (Or.inl rfl) (pe_op (r := rCatR K) op_catR (pv 3) (pe_lst (pa_cons (pe_tup (pa_cons (pe_op (r := rCatA K) op_catA (pe_tup (pa_cons pe_bl pa_nil)) (pe_slice sl_tupA (pv 2) (po_some pe_int) po_none)) (pa_cons pe_str pa_nil))) (pa_cons (pe_tup (pa_cons (pe_op (r := rCatA K) op_catA (pe_tup (pa_cons pe_str pa_nil)) (pe_slice sl_tupA (pv 2) (po_some pe_int) po_none)) (pa_cons pe_str pa_nil))) (pa_cons (pe_tup (pa_cons pe_str (pa_cons (pv 2) pa_nil))) pa_nil)))))) (pss_one (ps_ret (pe_call (ok_law_one T) (hr.mono (by decide)) rfl T.m_law_one T.F_law_one.kp T.b_law_one .nil pass0 (pa_cons (pv 0) (pa_cons (pe_op (r := rCatR K) op_catR (pv 3) (pe_lst (pa_cons (pe_tup (pa_cons (pv 2) (pa_cons (pe_lst (pa_cons pe_str pa_nil)) pa_nil))) pa_nil))) pa_nil))))))))), ?_⟩
    have l4 := ok.le
    have lp : 1 ≤ ns.length := List.length_pos_iff.mpr ok.pos
    refine ⟨_, rfl, _, rfl, s, l, ns, rfl, src, hl, ok, le, fun c cs H1 nc hc lc xb1 src1 => ?_⟩
    unfold tNoPart
    dsimp only [gName]
    refine ⟨_, rfl, _, rfl, slen rfl, ?_⟩
    (intro m3 nm3; generalize hGm3 : upd _ m3 _ = G1; have eG1 := exG hGm3 nm3; have hm3 := atG hGm3; clear hGm3)
    refine ⟨_, rfl, slen rfl, ?_⟩
    (intro m4 nm4; generalize hGm4 : upd _ m4 _ = G2; have eG2 := exG hGm4 nm4; have hm4 := atG hGm4; clear hGm4)
    refine ⟨_, rfl, slen rfl, ?_⟩
    (intro m5 nm5; generalize hGm5 : upd _ m5 _ = G3; have eG3 := exG hGm5 nm5; have hm5 := atG hGm5; clear hGm5)
    refine ⟨_, rfl, slen rfl, ?_⟩
    (intro m6 nm6; generalize hGm6 : upd _ m6 _ = G4; have eG4 := exG hGm6 nm6; have hm6 := atG hGm6; clear hGm6)
    refine ⟨_, rfl, slen rfl, ?_⟩
    (intro m7 nm7; generalize hGm7 : upd _ m7 _ = G5; have eG5 := exG hGm7 nm7; have hm7 := atG hGm7; clear hGm7)
    refine ⟨_, rfl, slen rfl, ?_⟩
    (intro m8 nm8; generalize hGm8 : upd _ m8 _ = G6; have eG6 := exG hGm8 nm8; have hm8 := atG hGm8; clear hGm8)
    refine ⟨slen rfl, ?_⟩
    (intro w1 nw1; generalize hGw1 : upd _ w1 _ = G7; have eG7 := exG hGw1 nw1; have hw1 := atG hGw1; clear hGw1)
    have u7 := ext eG1 (ext eG2 (ext eG3 (ext eG4 (ext eG5 (ext eG6 eG7)))))
    have hc7 := u7 _ _ hc
    dsimp only [gName]
    refine ⟨_, rfl, _, rfl, slen rfl, ?_⟩
    (intro m9 nm9; generalize hGm9 : upd _ m9 _ = G8; have eG8 := exG hGm9 nm9; have hm9 := atG hGm9; clear hGm9)
    refine ⟨_, rfl, slen rfl, ?_⟩
    (intro z10 nz10; generalize hGz10 : upd _ z10 _ = G9; have eG9 := exG hGz10 nz10; have hz10 := atG hGz10; clear hGz10)
    refine cat_tup ((ext eG8 eG9) _ _ hc7) hz10 (by rw [List.length_map, lc]; exact Nat.le_trans (show ns.length + 1 ≤ 8 by omega) (by decide)) fun c10 Ga ea hc10 => ⟨slen rfl, ?_⟩
    (intro m10 nm10; generalize hGm10 : upd _ m10 _ = Gb; have eGb := exG hGm10 nm10; have hm10 := atG hGm10; clear hGm10)
    have ub := ext eG8 (ext eG9 (ext ea eGb))
    refine ⟨_, rfl, ((1 : Nat) : Int), rfl, sl_ints (ub _ _ hc7) fun c11 Gc ec hc11 => ⟨slen rfl, ?_⟩⟩
    rw [cut_from] at hc11
    (intro m11 nm11; generalize hGm11 : upd _ m11 _ = Gd; have eGd := exG hGm11 nm11; have hm11 := atG hGm11; clear hGm11)
    have ud := ext ub (ext ec eGd)
    refine ⟨_, rfl, c, _, rfl, .inr (SqT.of (ud _ _ hc7)), ?_⟩
    (intro c12 nc12; generalize hGc12 : upd _ c12 _ = Ge; have eGe := exG hGc12 nc12; have hc12 := atG hGc12; clear hGc12)
    refine ⟨slen rfl, ?_⟩
    (intro m12 nm12; generalize hGm12 : upd _ m12 _ = Gf; have eGf := exG hGm12 nm12; have hm12 := atG hGm12; clear hGm12)
    refine ⟨slen rfl, ?_⟩
    (intro w2 nw2; generalize hGw2 : upd _ w2 _ = Gg; have eGg := exG hGw2 nw2; have hw2 := atG hGw2; clear hGw2)
    have ug := ext ud (ext eGe (ext eGf eGg))
    refine ⟨w1, w2, _, _, rfl, rfl, SqL.of (ug _ _ hw1), SqL.of hw2, (by show 8 + 4 ≤ _; decide), ?_⟩
    (intro w3 nw3; generalize hGw3 : upd _ w3 _ = Gh; have eGh := exG hGw3 nw3; have hw3 := atG hGw3; clear hGw3)
    dsimp only [List.cons_append, List.nil_append] at hw3
    have hch := (ext ug eGh) _ _ hc7
    dsimp only [gName]
    refine ⟨_, rfl, slen rfl, ?_⟩
    (intro z13 nz13; generalize hGz13 : upd _ z13 _ = Gi; have eGi := exG hGz13 nz13; have hz13 := atG hGz13; clear hGz13)
    refine ⟨_, rfl, ((1 : Nat) : Int), rfl, sl_ints (eGi _ _ hch) fun t13 Gj ej ht13 => ?_⟩
    rw [cut_from] at ht13
    refine cat_tup (ej _ _ hz13) ht13 (by rw [List.length_drop, List.length_map]; exact Nat.le_trans (show 1 + (cs.length - 1) ≤ 10 by omega) (by decide)) fun c13 Gk ek hc13 => ⟨slen rfl, ?_⟩
    (intro m13 nm13; generalize hGm13 : upd _ m13 _ = Gl; have eGl := exG hGm13 nm13; have hm13 := atG hGm13; clear hGm13)
    have ul := ext eGi (ext ej (ext ek eGl))
    refine ⟨slen rfl, ?_⟩
    (intro z14 nz14; generalize hGz14 : upd _ z14 _ = Gm; have eGm := exG hGz14 nz14; have hz14 := atG hGz14; clear hGz14)
    refine ⟨_, rfl, ((1 : Nat) : Int), rfl, sl_ints ((ext ul eGm) _ _ hch) fun t14 Gn en ht14 => ?_⟩
    rw [cut_from] at ht14
    refine cat_tup (en _ _ hz14) ht14 (by rw [List.length_drop, List.length_map]; exact Nat.le_trans (show 1 + (cs.length - 1) ≤ 10 by omega) (by decide)) fun c14 Go eo hc14 => ⟨slen rfl, ?_⟩
    (intro m14 nm14; generalize hGm14 : upd _ m14 _ = Gp; have eGp := exG hGm14 nm14; have hm14 := atG hGm14; clear hGm14)
    refine ⟨_, rfl, slen rfl, ?_⟩
    (intro m15 nm15; generalize hGm15 : upd _ m15 _ = Gq; have eGq := exG hGm15 nm15; have hm15 := atG hGm15; clear hGm15)
    refine ⟨slen rfl, ?_⟩
    (intro w4 nw4; generalize hGw4 : upd _ w4 _ = Gr; have eGr := exG hGw4 nw4; have hw4 := atG hGw4; clear hGw4)
    have ur := ext ul (ext eGm (ext en (ext eo (ext eGp (ext eGq eGr)))))
    refine ⟨w3, w4, _, _, rfl, rfl, SqL.of (ur _ _ hw3), SqL.of hw4, (by show 12 + 3 ≤ _; decide), ?_⟩
    (intro w5 nw5; generalize hGw5 : upd _ w5 _ = Gs; have eGs := exG hGw5 nw5; have hw5 := atG hGw5; clear hGw5)
    dsimp only [List.cons_append, List.nil_append] at hw5
    dsimp only [gName]
    refine ⟨_, rfl, _, rfl, _, rfl, slen rfl, ?_⟩
    (intro z16 nz16; generalize hGz16 : upd _ z16 _ = Gt; have eGt := exG hGz16 nz16; have hz16 := atG hGz16; clear hGz16)
    refine ⟨slen rfl, ?_⟩
    (intro m16 nm16; generalize hGm16 : upd _ m16 _ = Gu; have eGu := exG hGm16 nm16; have hm16 := atG hGm16; clear hGm16)
    refine ⟨slen rfl, ?_⟩
    (intro w6 nw6; generalize hGw6 : upd _ w6 _ = Gv; have eGv := exG hGw6 nw6; have hw6 := atG hGw6; clear hGw6)
    refine ⟨w5, w6, _, _, rfl, rfl, SqL.of ((ext eGt (ext eGu eGv)) _ _ hw5), SqL.of hw6, (by show 15 + 1 ≤ _; decide), ?_⟩
    (intro w7 nw7; generalize hGw7 : upd _ w7 _ = Gw; have eGw := exG hGw7 nw7; have hw7 := atG hGw7; clear hGw7)
    dsimp only [List.cons_append, List.nil_append] at hw7
    have vv := eGw
    have vu := ext eGv vv
    have vt := ext eGu vu
    have vs := ext eGt vt
    have vr := ext eGs vs
    have vq := ext eGr vr
    have vp := ext eGq vq
    have vo := ext eGp vp
    have vn := ext eo vo
    have vm := ext en vn
    have vl := ext eGm vm
    have vk := ext eGl vl
    have vj := ext ek vk
    have vi := ext ej vj
    have vh := ext eGi vi
    have vg := ext eGh vh
    have vf := ext eGg vg
    have ve := ext eGf vf
    have vd := ext eGe ve
    have vc := ext eGd vd
    have vb := ext ec vc
    have va := ext eGb vb
    have v9 := ext ea va
    have v8 := ext eG9 v9
    have v7 := ext eG8 v8
    have v6 := ext eG7 v7
    have v5 := ext eG6 v6
    have v4 := ext eG5 v5
    have v3 := ext eG4 v4
    have v2 := ext eG3 v3
    have v1 := ext eG2 v2
    have v0 := ext eG1 v1
    have srcw := src1.mono v0
    have nm5 := (src1.mono (ext eG1 eG2)).ne nm5
    have nc12 := ((src1.mono u7).mono ud).ne nc12
    have nz16 : z16 ≠ s := fun z => by
      obtain ⟨_, _, _, h⟩ := srcw
      have := vt _ _ hz16
      rw [z, h] at this
      have := congrArg List.length (HO.lst.inj (Option.some.inj this))
      simp at this
    have nw7 : w7 ≠ s := fun z => by
      obtain ⟨_, _, _, h⟩ := srcw
      rw [z, h] at hw7
      have := congrArg List.length (HO.lst.inj (Option.some.inj hw7))
      simp at this
    have qc : Dq (· ≠ s) Gw (.ref c) (iT cs) := Dq.ints (v0 _ _ hc)
    have qr : ∀ {v : V} {o : PyData}, Dq (· ≠ s) Gw v o → DqAll (· ≠ s) Gw ([v] ++ (cs.map V.int).drop 1) ([o] ++ (cs.drop 1).map PyData.int) := fun q => by
      rw [← List.map_drop]
      exact .cons q (DqAll.ints _)
    have scs : ShortT (iT cs) := short_of (by rw [List.length_map]; omega)
    have ssr : ∀ o : PyData, ShortT (.tuple ([o] ++ (cs.drop 1).map PyData.int)) := fun o => short_of (by rw [List.length_append, List.length_map, List.length_drop]; show 1 + (cs.length - 1) ≤ 1000; omega)
    have all : ∀ v ∈ [V.non, .ref c, .ref m3, .ref m4, .ref m5, .ref m6, .ref m7, .ref m8, .ref m9, .ref m10, .ref m11, .ref m12, .ref m13, .ref m14, .ref m15, .ref m16], ∃ d, Dq (· ≠ s) Gw v d ∧ BadM ns d := fun v hv => by
      simp only [List.mem_cons, List.not_mem_nil, or_false] at hv
      rcases hv with rfl | rfl | rfl | rfl | rfl | rfl | rfl | rfl | rfl | rfl | rfl | rfl | rfl | rfl | rfl | rfl
      · exact ⟨_, .non, badM_any rfl⟩
      · refine ⟨_, qc, ⟨?_, fun es z e he => ?_⟩⟩
        · by_cases l2 : (cs.map PyData.int).length = 2
          · match cs, l2 with
            | [a, b], _ => exact rfl
          · exact mov_no rfl l2
        · obtain rfl := Option.some.inj z
          obtain ⟨i, _, rfl⟩ := List.mem_map.mp he
          exact short_any rfl
      · exact ⟨_, .tup (v1 _ _ hm3) (.cons qc .nil), badM_len (by simp) fun e he => by rw [List.mem_singleton.mp he]; exact scs⟩
      · refine ⟨_, .tup (v2 _ _ hm4) (.cons qc (.cons (.str _) (.cons (.int _) .nil))), badM_len (by simp) fun e he => ?_⟩
        simp only [List.mem_cons, List.not_mem_nil, or_false] at he
        rcases he with rfl | rfl | rfl
        · exact scs
        · exact short_any rfl
        · exact short_any rfl
      · exact ⟨_, .lst (v3 _ _ hm5) nm5 (.cons qc (.cons (.str _) .nil)), badM_any rfl⟩
      · exact ⟨_, .tup (v4 _ _ hm6) (.cons qc (.cons (.str _) .nil)), badM_dir scs (short_any rfl) (by decide +kernel)⟩
      · exact ⟨_, .tup (v5 _ _ hm7) (.cons qc (.cons (.str _) .nil)), badM_dir scs (short_any rfl) (by decide +kernel)⟩
      · exact ⟨_, .tup (v6 _ _ hm8) (.cons qc (.cons (.int _) .nil)), badM_dir scs (short_any rfl) rfl⟩
      · exact ⟨_, .tup (v8 _ _ hm9) (.cons qc (.cons .non .nil)), badM_dir scs (short_any rfl) rfl⟩
      · exact ⟨_, .tup (vb _ _ hm10) (.cons (.tup (va _ _ hc10) ((DqAll.ints cs).app (.cons (.int 0) .nil))) (.cons (.str _) .nil)), badM_call (short_of (by rw [List.length_append, List.length_map]; show cs.length + 1 ≤ _; omega)) (short_any rfl) (not_call_len (by rw [List.length_append, List.length_map]; show cs.length + 1 ≠ _; omega))⟩
      · exact ⟨_, .tup (vd _ _ hm11) (.cons (.tup (vc _ _ hc11) (by rw [← List.map_drop]; exact DqAll.ints _)) (.cons (.str _) .nil)), badM_call (short_of (by rw [List.length_map, List.length_drop]; omega)) (short_any rfl) (not_call_len (by rw [List.length_map, List.length_drop]; omega))⟩
      · exact ⟨_, .tup (vf _ _ hm12) (.cons (.lst (ve _ _ hc12) nc12 (DqAll.ints cs)) (.cons (.str _) .nil)), badM_call (short_any rfl) (short_any rfl) rfl⟩
      · exact ⟨_, .tup (vl _ _ hm13) (.cons (.tup (vk _ _ hc13) (qr (.bl true))) (.cons (.str _) .nil)), badM_call (ssr _) (short_any rfl) (not_call_odd (e := .bool true) (by simp) rfl)⟩
      · exact ⟨_, .tup (vp _ _ hm14) (.cons (.tup (vo _ _ hc14) (qr (.str _))) (.cons (.str _) .nil)), badM_call (ssr _) (short_any rfl) (not_call_odd List.mem_cons_self rfl)⟩
      · exact ⟨_, .tup (vq _ _ hm15) (.cons (.str _) (.cons qc .nil)), badM_call (short_any rfl) scs rfl⟩
      · exact ⟨_, .tup (vu _ _ hm16) (.cons qc (.cons (.lst (vt _ _ hz16) nz16 (.cons (.str _) .nil)) .nil)), badM_dir scs (short_any rfl) rfl⟩
    refine ⟨s, w7, _, rfl, srcw, hw7, nw7, (by simp), (by show 16 ≤ 1000; decide), fun v G hv xb srcG => ?_⟩
    obtain ⟨d, q, b⟩ := all v hv
    exact k v d G (q.xb srcw xb) b (xb1.trans ((XB.of v0).trans xb)) srcG
end

section
variable {K : PySem.W.Frag} {CT CG CS CM CL : Addr} {Q : VK} {H : Hp}
theorem rai_tab {x : V} {f : Str} (k : ∀ G r, Ex H G → TwoS G r "table" .non → Q (.ref r) G) : Rai (ErrR K CT CG CS CM CL Q) H CT f x := fun dd H2 e2 hd =>
  ⟨dd, _, _, rfl, hd, .inl ⟨rfl, fun G2 r e3 t => k _ r (ext e2 e3) t⟩⟩
theorem rai_tgt {x : V} (k : ∀ G r, Ex H G → TwoS G r "targets" x → Q (.ref r) G) : Rai (ErrR K CT CG CS CM CL Q) H CG "index" x := fun dd H2 e2 hd =>
  ⟨dd, _, _, rfl, hd, .inr (.inl ⟨rfl, rfl, fun G2 r e3 t => k _ r (ext e2 e3) t⟩)⟩
theorem rai_seat {x : V} {e : PyData} (sh : ∀ G, Ex H G → ShA K G x e) (k : ∀ G r, Ex H G → TwoS G r "seat" (.str e.shown) → Q (.ref r) G) : Rai (ErrR K CT CG CS CM CL Q) H CS "seat" x := fun dd H2 e2 hd =>
  ⟨dd, _, _, rfl, hd, .inr (.inr (.inl ⟨rfl, rfl, e, fun G2 e3 => sh _ (ext e2 e3), fun G2 r e3 t => k _ r (ext e2 e3) t⟩))⟩
theorem rai_mov {x : V} (k : ∀ G r, Ex H G → TwoS G r "moves" x → Q (.ref r) G) : Rai (ErrR K CT CG CS CM CL Q) H CM "index" x := fun dd H2 e2 hd =>
  ⟨dd, _, _, rfl, hd, .inr (.inr (.inr (.inl ⟨rfl, rfl, fun G2 r e3 t => k _ r (ext e2 e3) t⟩)))⟩
theorem rai_large {x : V} (k : ∀ G r, Ex H G → TwoS G r "large" x → Q (.ref r) G) : Rai (ErrR K CT CG CS CM CL Q) H CL "limit" x := fun dd H2 e2 hd =>
  ⟨dd, _, _, rfl, hd, .inr (.inr (.inr (.inr ⟨rfl, rfl, fun G2 r e3 t => k _ r (ext e2 e3) t⟩)))⟩
end
/-- data that is no table -/
theorem Dq.noTab {K : PySem.W.Frag} {B : Addr → Prop} {H : Hp} {C : Addr} {v : V} {d : PyData} (q : Dq B H v d) (h : ∀ t ∈ ["NoneType", "bool", "int", "str", "list", "tuple", "dict"], PySem.W.kitOne K (.type t) (.ref C) = some false) : InsB K C H v false := by
  cases q with
  | non => exact ⟨_, .base .non, h _ (by simp)⟩
  | bl b => exact ⟨_, .base (.bl b), h _ (by simp)⟩
  | int i => exact ⟨_, .base (.int i), h _ (by simp)⟩
  | str x => exact ⟨_, .base (.str x), h _ (by simp)⟩
  | lst h1 _ _ => exact ⟨_, .base (.lst h1), h _ (by simp)⟩
  | tup h1 _ => exact ⟨_, .base (.tup h1), h _ (by simp)⟩
  | emp h1 => exact ⟨_, .base (.dK h1), h _ (by simp)⟩
theorem Dq.shA {K : PySem.W.Frag} {B : Addr → Prop} {H : Hp} {v : V} {d : PyData} (q : Dq B H v d) (s : Shn d) : ∀ G, Ex H G → ShA K G v d := fun G e => ⟨(q.mono e).de, s.1.sh, Nat.le_trans s.1.len (by decide), Nat.le_trans s.1.dep (by decide)⟩
/-! ### outcomes as data -/
def PdO (H : Hp) (v : V) (d : PyData) : Prop := (v = .non ∧ d = .none) ∨ ∃ (r : Addr) (w : Str) (y : V) (yd : PyData), v = .ref r ∧ TwoS H r w y ∧ d = .tuple [.str w, yd] ∧ Sk w ∧ ((y = .non ∧ yd = .none) ∨ (∃ z, y = .str z ∧ yd = .str z ∧ Sk z) ∨ ∃ i, y = .int i ∧ yd = .int i)
theorem PdO.of {H H2 : Hp} {v : V} {d : PyData} (e : ∀ c xs, H c = some (.tup xs) → H2 c = some (.tup xs)) (h : PdO H v d) : PdO H2 v d := by
  rcases h with h | ⟨r, w, y, yd, h1, h2, h3⟩
  · exact .inl h
  · exact .inr ⟨r, w, y, yd, h1, e _ _ h2, h3⟩
theorem PdO.mono {H H2 : Hp} {v : V} {d : PyData} (e : Ex H H2) (h : PdO H v d) : PdO H2 v d := h.of fun _ _ z => e _ _ z
theorem PdO.xn {s : Addr} {H H2 : Hp} {v : V} {d : PyData} (src : Src H s) (x : XN s H H2) (h : PdO H v d) : PdO H2 v d := h.of fun _ _ z => x.tup src z
theorem pdO_dp {K : PySem.W.Frag} {H : Hp} {v : V} {d : PyData} (h : PdO H v d) : Dp K H v d ∧ Sh 3 d := by
  rcases h with ⟨rfl, rfl⟩ | ⟨r, w, y, yd, rfl, h2, rfl, hw, h⟩
  · exact ⟨.non, ⟨rfl, by simp only [PyData.depth]; omega⟩⟩
  have two : ∀ z : PyData, Sh 2 z → Sh 3 (.tuple [.str w, z]) := fun z hz => sh_tuple (n := 2) fun d hd => by
    simp only [List.mem_cons, List.not_mem_nil, or_false] at hd
    rcases hd with rfl | rfl
    · exact ⟨sk_ok hw, by simp only [PyData.depth]; omega⟩
    · exact hz
  rcases h with ⟨rfl, rfl⟩ | ⟨z, rfl, rfl, hz⟩ | ⟨i, rfl, rfl⟩
  · exact ⟨.tup (SqT.of h2) (.cons (.str _) (.cons .non .nil)), two _ ⟨rfl, by simp only [PyData.depth]; omega⟩⟩
  · exact ⟨.tup (SqT.of h2) (.cons (.str _) (.cons (.str _) .nil)), two _ ⟨sk_ok hz, by simp only [PyData.depth]; omega⟩⟩
  · exact ⟨.tup (SqT.of h2) (.cons (.str _) (.cons (.int _) .nil)), two _ (sh_int i)⟩
theorem pdO_all {K : PySem.W.Frag} {H : Hp} : ∀ {vs : List V} {ds : List PyData}, Paired (PdO H) vs ds → DpAll K H vs ds ∧ ∀ d ∈ ds, Sh 3 d
  | _, _, .nil => ⟨.nil, fun d hd => nomatch hd⟩
  | _, _, .cons h t => by
    obtain ⟨a, b⟩ := pdO_dp (K := K) h
    obtain ⟨c, e⟩ := pdO_all (K := K) t
    refine ⟨.cons a c, fun d hd => ?_⟩
    rcases List.mem_cons.mp hd with rfl | hd
    · exact b
    · exact e d hd
theorem PdO.two {H : Hp} {r : Addr} {w z : Str} (h : TwoS H r w (.str z)) (hw : Sk w) (hz : Sk z) : PdO H (.ref r) (.tuple [.str w, .str z]) := .inr ⟨r, w, _, _, rfl, h, rfl, hw, .inr (.inl ⟨z, rfl, rfl, hz⟩)⟩
theorem PdO.int {H : Hp} {r : Addr} {w : Str} {i : Int} (h : TwoS H r w (.int i)) (hw : Sk w) : PdO H (.ref r) (.tuple [.str w, .int i]) := .inr ⟨r, w, _, _, rfl, h, rfl, hw, .inr (.inr ⟨i, rfl, rfl⟩)⟩
theorem PdO.none {H : Hp} {r : Addr} {w : Str} (h : TwoS H r w .non) (hw : Sk w) : PdO H (.ref r) (.tuple [.str w, .none]) := .inr ⟨r, w, _, _, rfl, h, rfl, hw, .inl ⟨rfl, rfl⟩⟩
theorem pdO_ne {K : PySem.W.Frag} {G : Hp} {a b : Addr} {xs ys : List V} {ds : List PyData} {Q : VK} (ha : G a = some (.lst xs)) (hb : G b = some (.lst ys)) (pa : Paired (PdO G) xs ds) (pb : Paired (PdO G) ys ds) (h : Q (.bl false) G) : rNeD K (.ref a) (.ref b) G Q := by
  obtain ⟨a1, a2⟩ := pdO_all (K := K) pa
  obtain ⟨b1, _⟩ := pdO_all (K := K) pb
  have sh : Sh 60 (.list ds) := (sh_list (n := 3) a2).up (by decide)
  refine ⟨_, _, .lst (SqL.of ha) a1, .lst (SqL.of hb) b1, sh.ok, sh.ok, ?_⟩
  rw [eqv_same sh]
  exact h
theorem pdO_eq {K : PySem.W.Frag} {G : Hp} {a b : Addr} {xs ys : List V} {ds : List PyData} {Q : VK} (ha : G a = some (.lst xs)) (hb : G b = some (.lst ys)) (pa : Paired (PdO G) xs ds) (pb : Paired (PdO G) ys ds) (h : Q (.bl true) G) : rEqD K (.ref a) (.ref b) G Q := by
  obtain ⟨a1, a2⟩ := pdO_all (K := K) pa
  obtain ⟨b1, _⟩ := pdO_all (K := K) pb
  have sh : Sh 60 (.list ds) := (sh_list (n := 3) a2).up (by decide)
  refine ⟨_, _, .lst (SqL.of ha) a1, .lst (SqL.of hb) b1, sh.ok, sh.ok, ?_⟩
  rw [eqv_refl _ sh.1]
  exact h
/-! ### moves as data -/
abbrev iM (m : List Int × Bool) : PyData := .tuple [iT m.1, .str (dirS m.2)]
theorem MovR.dq {B : Addr → Prop} {H : Hp} {xs : List V} {ms : List (List Int × Bool)} (h : MovR H xs ms) : DqAll B H xs (ms.map iM) := by
  induction h with
  | nil => exact .nil
  | cons q _ ih =>
    obtain ⟨r, c, rfl, hr, hc⟩ := q
    exact .cons (.tup hr (.cons (Dq.ints hc) (.cons (.str _) .nil))) ih
theorem mov_good {ns : List Int} {m : List Int × Bool} (l : m.1.length = ns.length) : movO ns (iM m) = true := by
  show (isCallO ns (oT (iT m.1)) && isDirO (some (dirS m.2))) = true
  have : isDirO (some (dirS m.2)) = true := by cases m.2 <;> decide +kernel
  rw [this, Bool.and_true, oT_ints]
  exact isCall_ok l
theorem short_mov {ns : List Int} {m : List Int × Bool} (l4 : ns.length ≤ 4) (l : m.1.length = ns.length) : ShortM (iM m) := short_two (short_of (by rw [List.length_map]; omega)) (short_any rfl)
theorem goM_app {ns : List Int} {ds : List PyData} : ∀ {ms : List (List Int × Bool)} {i : Nat}, (∀ m ∈ ms, m.1.length = ns.length) → goM ns (ms.map iM ++ ds) i = goM ns ds (i + ms.length)
  | [], i, _ => rfl
  | m :: ms, i, h => by
    show (if movO ns (iM m) = true then goM ns (ms.map iM ++ ds) (i + 1) else _) = _
    rw [if_pos (mov_good (h m List.mem_cons_self)), goM_app fun n hn => h n (List.mem_cons_of_mem _ hn), List.length_cons]
    congr 1
    omega
theorem goM_stop {ns : List Int} {d : PyData} {ds : List PyData} {i : Nat} (h : movO ns d = false) : goM ns (d :: ds) i = some (i : Int) := by
  show (if movO ns d = true then _ else _) = _
  rw [if_neg (by rw [h]; simp)]

/-! ### what the asks of the law are handed -/
structure Sc (s C : Addr) (H : Hp) (ns : List Int) (tb f st gl br : Addr) (vT vW vB vN : V) (dB : PyData) (i j : Int) : Prop where
  src : Src H s
  tab : TabAt C H tb ns
  ok : SzOk ns
  thing : ∃ d, Dq (· ≠ s) H vT d
  wrong : ∃ od, BadG s ns H vW i od
  bad : Dq (· ≠ s) H vB dB
  bads : BadS ns dB
  goals : ∃ tss, RowsAt H f tss ∧ tss ≠ [] ∧ tss.length ≤ 3 ∧ (∀ ts ∈ tss, SeatOk ns ts) ∧ tss.Nodup
  fs : f ≠ s
  start : ∃ p, H st = some (.tup (p.map V.int)) ∧ SeatOk ns p
  good : ∃ xs ms, H gl = some (.lst xs) ∧ MovR H xs ms ∧ ms.length ≤ 5 ∧ ∀ m ∈ ms, m.1.length = ns.length
  gs : gl ≠ s
  broken : ∃ xs ds, H br = some (.lst xs) ∧ DqAll (· ≠ s) H xs ds ∧ (∀ d ∈ ds, ShortM d) ∧ goM ns ds 0 = some j
  bs : br ≠ s
  nothing : NoSeq H vN
theorem MovR.xn {s : Addr} {H H2 : Hp} (src : Src H s) (x : XN s H H2) : ∀ {xs : List V} {ms : List (List Int × Bool)}, MovR H xs ms → MovR H2 xs ms
  | _, _, .nil => .nil
  | _, _, .cons ⟨r, c, h1, h2, h3⟩ t => .cons ⟨r, c, h1, x.tup src h2, x.tup src h3⟩ (MovR.xn src x t)
theorem Sc.xn {s C : Addr} {H H2 : Hp} {ns : List Int} {tb f st gl br : Addr} {vT vW vB vN : V} {dB : PyData} {i j : Int} (x : XN s H H2) (src2 : Src H2 s) (h : Sc s C H ns tb f st gl br vT vW vB vN dB i j) : Sc s C H2 ns tb f st gl br vT vW vB vN dB i j := by
  obtain ⟨src, tab, ok, ⟨d, thing⟩, ⟨od, wrong⟩, bad, bads, ⟨tss, g1, g2⟩, fs, ⟨p, p1, p2⟩, ⟨xs, ms, m1, m2, m3⟩, gs, ⟨ys, ds, b1, b2, b3⟩, bs, no⟩ := h
  exact ⟨src2, x.tab src tab, ok, ⟨d, thing.xn src x⟩, ⟨od, wrong.xn src x⟩, bad.xn src x, bads, ⟨tss, x.rows src fs g1, g2⟩, fs, ⟨p, x.tup src p1, p2⟩, ⟨xs, ms, x.lst gs m1, m2.xn src x, m3⟩, gs, ⟨ys, ds, x.lst bs b1, b2.xn src x, b3⟩, bs, no.xn src x⟩
section
variable {K : PySem.W.Frag} {s C CT CG CS CM CL : Addr} {H : Hp} {ns : List Int} {tb f st gl br : Addr} {vT vW vB vN : V} {dB : PyData} {i j : Int} {Q : VK} {fin : Prop}
variable (h : Sc s C H ns tb f st gl br vT vW vB vN dB i j)
include h
theorem Sc.seat_bad {rest : Prop} (k : ∀ G r, Ex H G → TwoS G r "seat" (.str dB.shown) → Q (.ref r) G) : RSeat K CS (ErrR K CT CG CS CM CL Q) H ns vB rest :=
  ⟨_, h.bad.tA h.bads.short, .inl ⟨h.bads.no, rai_seat (h.bad.shA h.bads.sh) k⟩⟩
theorem Sc.seat_good {E : XK} {rest : Prop} (r : rest) : RSeat K CS E H ns (.ref st) rest := by
  obtain ⟨p, p1, p2⟩ := h.start
  exact ⟨_, TupA.ints p1 (by have := p2.len; have := h.ok.le; omega), .inr ⟨isSeat_ok p2, r⟩⟩
theorem Sc.goals_good {E : XK} {rest : Prop} (r : rest) : RTgt K CG E H ns (.ref f) rest := by
  obtain ⟨tss, ⟨xs, g1, g2⟩, ne, lt, sk, nod⟩ := h.goals
  refine ⟨(· ≠ s), some (tss.map iT), ⟨(false, f), xs, rfl, g1, g2.dq⟩, fun ds e => ?_, .inr ⟨?_, r⟩⟩
  · obtain rfl := Option.some.inj e
    refine ⟨by rw [List.length_map]; omega, fun d hd => ?_⟩
    obtain ⟨ts, hts, rfl⟩ := List.mem_map.mp hd
    exact short_seat h.ok.le (sk ts hts)
  · show (if tss.map iT = [] then _ else _) = _
    rw [if_neg (by simpa using ne)]
    have := go_app (ds := []) (seen := []) sk nod (by simp)
    rw [List.append_nil] at this
    exact this
theorem Sc.goals_bad {rest : Prop} (k : ∀ G r, Ex H G → TwoS G r "targets" (.int i) → Q (.ref r) G) : RTgt K CG (ErrR K CT CG CS CM CL Q) H ns vW rest := by
  obtain ⟨od, w⟩ := h.wrong
  exact ⟨_, od, w.tgt, w.bd, .inl ⟨i, w.due, rai_tgt k⟩⟩
theorem Sc.mov_bad {rest : Prop} (k : ∀ G r, Ex H G → TwoS G r "moves" (.int j) → Q (.ref r) G) : RMov K CM (ErrR K CT CG CS CM CL Q) H ns (.ref br) rest := by
  obtain ⟨xs, ds, b1, b2, b3, b4⟩ := h.broken
  exact ⟨_, some ds, ⟨(false, br), xs, rfl, b1, b2⟩, fun es e => by obtain rfl := Option.some.inj e; exact b3, .inl ⟨j, b4, rai_mov k⟩⟩
theorem Sc.mov_no {rest : Prop} (k : ∀ G r, Ex H G → TwoS G r "moves" (.int (-1)) → Q (.ref r) G) : RMov K CM (ErrR K CT CG CS CM CL Q) H ns vN rest :=
  ⟨(· ≠ s), none, h.nothing, (fun _ e => nomatch e), .inl ⟨-1, rfl, rai_mov k⟩⟩
theorem Sc.tab_good {E : XK} {rest : Addr → List Int → Prop} (r : rest tb ns) : RTab K C CT E H (.ref tb) rest := .inr ⟨tb, ns, rfl, h.tab, h.ok, r⟩
theorem Sc.tab_bad {rest : Addr → List Int → Prop} (no : ∀ t ∈ ["NoneType", "bool", "int", "str", "list", "tuple", "dict"], PySem.W.kitOne K (.type t) (.ref C) = some false) (k : ∀ G r, Ex H G → TwoS G r "table" .non → Q (.ref r) G) : RTab K C CT (ErrR K CT CG CS CM CL Q) H vT rest := by
  obtain ⟨d, t⟩ := h.thing
  exact .inl ⟨t.noTab no, rai_tab k⟩
theorem Sc.rec1 (no : ∀ t ∈ ["NoneType", "bool", "int", "str", "list", "tuple", "dict"], PySem.W.kitOne K (.type t) (.ref C) = some false) (k : ∀ G r, Ex H G → TwoS G r "table" .non → Q (.ref r) G) : RecX K C CT CG CS CM (ErrR K CT CG CS CM CL Q) H vT vW vB (.ref br) fin := h.tab_bad no k
theorem Sc.rec2 (k : ∀ G r, Ex H G → TwoS G r "targets" (.int i) → Q (.ref r) G) : RecX K C CT CG CS CM (ErrR K CT CG CS CM CL Q) H (.ref tb) vW vB (.ref br) fin := h.tab_good (h.goals_bad k)
theorem Sc.rec3 (k : ∀ G r, Ex H G → TwoS G r "seat" (.str dB.shown) → Q (.ref r) G) : RecX K C CT CG CS CM (ErrR K CT CG CS CM CL Q) H (.ref tb) (.ref f) vB (.ref br) fin := h.tab_good (h.goals_good (h.seat_bad k))
theorem Sc.rec4 (k : ∀ G r, Ex H G → TwoS G r "moves" (.int j) → Q (.ref r) G) : RecX K C CT CG CS CM (ErrR K CT CG CS CM CL Q) H (.ref tb) (.ref f) (.ref st) (.ref br) fin := h.tab_good (h.goals_good (h.seat_good (h.mov_bad k)))
theorem Sc.rec5 (k : ∀ G r, Ex H G → TwoS G r "moves" (.int (-1)) → Q (.ref r) G) : RecX K C CT CG CS CM (ErrR K CT CG CS CM CL Q) H (.ref tb) (.ref f) (.ref st) vN fin := h.tab_good (h.goals_good (h.seat_good (h.mov_no k)))
theorem Sc.rec6 {E : XK} {H2 : Hp} (e : Ex H H2) {t : Addr} {xs : List V} (hg : H gl = some (.lst xs)) (ht : H2 t = some (.tup xs)) (src2 : Src H2 s) (r : fin) : RecX K C CT CG CS CM E H2 (.ref tb) (.ref f) (.ref st) (.ref t) fin := by
  obtain ⟨ys, ms, m1, m2, m3, m4⟩ := h.good
  obtain rfl : ys = xs := HO.lst.inj (Option.some.inj (m1.symm.trans hg))
  have h2 := h.xn (XN.of e) src2
  have m5 := m2.mono e
  refine h2.tab_good (h2.goals_good (h2.seat_good ⟨(· ≠ s), some (ms.map iM), ⟨(true, t), ys, rfl, ht, m5.dq⟩, fun ds q => ?_, .inr ⟨?_, ?_, r⟩⟩))
  · obtain rfl := Option.some.inj q
    intro d hd
    obtain ⟨m, hm, rfl⟩ := List.mem_map.mp hd
    exact short_mov h.ok.le (m4 m hm)
  · show goM ns (ms.map iM) 0 = none
    have := goM_app (ds := []) (i := 0) m4
    rw [List.append_nil] at this
    exact this
  · obtain ⟨tss, g1, _⟩ := h2.goals
    obtain ⟨p, p1, p2⟩ := h2.start
    exact ⟨(false, f), (true, t), st, tss, p, ms, rfl, rfl, rfl, g1, p1, p2, ⟨ys, ht, m5⟩, by omega, m4⟩
theorem Sc.wit1 (no : ∀ t ∈ ["NoneType", "bool", "int", "str", "list", "tuple", "dict"], PySem.W.kitOne K (.type t) (.ref C) = some false) (k : ∀ G r, Ex H G → TwoS G r "table" .non → Q (.ref r) G) : WitX K C CT CS CM CL (ErrR K CT CG CS CM CL Q) H vT vB (.ref br) := h.tab_bad no k
theorem Sc.wit2 (k : ∀ G r, Ex H G → TwoS G r "seat" (.str dB.shown) → Q (.ref r) G) : WitX K C CT CS CM CL (ErrR K CT CG CS CM CL Q) H (.ref tb) vB (.ref br) := h.tab_good (h.seat_bad k)
theorem Sc.wit3 (k : ∀ G r, Ex H G → TwoS G r "moves" (.int j) → Q (.ref r) G) : WitX K C CT CS CM CL (ErrR K CT CG CS CM CL Q) H (.ref tb) (.ref st) (.ref br) := h.tab_good (h.seat_good (h.mov_bad k))
theorem Sc.wit4 (k : ∀ G r, Ex H G → TwoS G r "moves" (.int (-1)) → Q (.ref r) G) : WitX K C CT CS CM CL (ErrR K CT CG CS CM CL Q) H (.ref tb) (.ref st) vN := h.tab_good (h.seat_good (h.mov_no k))
end

theorem movR_take {H : Hp} : ∀ (k : Nat) {xs : List V} {ms : List (List Int × Bool)}, MovR H xs ms → MovR H (xs.take k) (ms.take k)
  | 0, _, _, _ => .nil
  | _ + 1, _, _, .nil => .nil
  | k + 1, _, _, .cons h t => .cons h (movR_take k t)
theorem movR_drop {H : Hp} : ∀ (k : Nat) {xs : List V} {ms : List (List Int × Bool)}, MovR H xs ms → MovR H (xs.drop k) (ms.drop k)
  | 0, _, _, h => h
  | _ + 1, _, _, .nil => .nil
  | k + 1, _, _, .cons _ t => movR_drop k t
/-- the outcomes that are found so far -/
structure Fd (fl : Addr) (M G : Hp) (rs : List V) (ds : List PyData) : Prop where
  ea : EA fl M G
  h : G fl = some (.lst rs)
  ps : Paired (PdO G) rs ds
theorem Fd.step {fl : Addr} {M G G1 G2 : Hp} {rs : List V} {ds : List PyData} {v : V} {d : PyData} (F : Fd fl M G rs ds) (en : LamX.ExtN G G1) (e : Ex G1 G2) (p : PdO G2 v d) : Fd fl M (upd G2 fl (.lst (rs ++ [v]))) (rs ++ [v]) (ds ++ [d]) := by
  have h2 := e _ _ (en _ _ F.h (fun _ z => nomatch z))
  have tp : ∀ c xs, G2 c = some (.tup xs) → upd G2 fl (.lst (rs ++ [v])) c = some (.tup xs) := fun c xs z => by
    rw [upd_ne (ne_of z h2 (by intro q; cases q))]
    exact z
  refine ⟨((F.ea.ext en).ext (LamX.ExtN.of e)).upd, upd_same, paired_snoc (p.of tp) (paired_mono (fun w a q => q.of fun c xs z => tp _ _ (e _ _ (en _ _ z (fun _ y => nomatch y)))) F.ps)⟩
section
variable {P : Program} {w : World} {K : PySem.W.Frag} {mg : Str → Option Value} {base : Heap}
def sp_law_right (TT : List (Addr × Str)) : Sp := fun vs H Q _ => ∃ (s l : Addr) (ns : List Int), vs = [.ref s, .ref l] ∧ Src H s ∧ H l = some (.tup (ns.map V.int)) ∧ SzOk ns ∧ (∀ n ∈ ns, n ≤ 10 ^ 30) ∧ LamX.Tabs TT H ∧ ∀ H2, XN s H H2 → Src H2 s → LamX.Tabs TT H2 → Q (.bl true) H2
theorem ok_law_right (T : TX K mg) (L : TL T base) : CG.FnOkG P w K mg base 12 T.f_law_right T.fd_law_right ["_law_source_here", "_law_rings_here"] (sp_law_right L.tabs) := by
  refine CG.okGT T.F_law_right L.at_law_right sc_law_right (fun vs H Q E h => ?_) (fun A outer s0 H0 vs Q E gd hr h => ?_)
  · obtain ⟨s, l, ns, rfl, _⟩ := h
    rfl
  · obtain ⟨s, l, ns, rfl, src, hl, ok, le, tabs, k⟩ := h
    refine ⟨_, (pss_cons (ps_asg (pe_tup (pa_cons (pe_make T.M_Table (ok_Table_init T) (hr.mono (by decide)) rfl T.m_Table T.b_Table_init .nil pass0 (pa_cons (pv 1) pa_nil)) (pa_cons (pe_call (ok_law_seats T) (hr.mono (by decide)) rfl T.m_law_seats T.F_law_seats.kp T.b_law_seats .nil pass0 (pa_cons (pv 0) (pa_cons (pv 1) (pa_cons pe_int pa_nil)))) pa_nil))) (pg_tup rfl (pgs_cons (pg_name (i := 2) sc_law_right.nd rfl (Or.inr rfl)) (pgs_cons (pg_name (i := 3) sc_law_right.nd rfl (Or.inr rfl)) pgs_nil)))) (pss_cons (ps_asg (pe_tup (pa_cons (pe_call (ok_law_seat T) (hr.mono (by decide)) rfl T.m_law_seat T.F_law_seat.kp T.b_law_seat .nil pass0 (pa_cons (pv 0) (pa_cons (pv 1) pa_nil))) (pa_cons (pe_call (ok_law_moves T) (hr.mono (by decide)) rfl T.m_law_moves T.F_law_moves.kp T.b_law_moves .nil pass0 (pa_cons (pv 0) (pa_cons (pv 1) (pa_cons pe_int pa_nil)))) pa_nil))) (pg_tup rfl (pgs_cons (pg_name (i := 4) sc_law_right.nd rfl (Or.inr rfl)) (pgs_cons (pg_name (i := 5) sc_law_right.nd rfl (Or.inr rfl)) pgs_nil)))) (pss_cons (ps_asg (pe_call (ok_law_bad_targets T) (hr.mono (by decide)) rfl T.m_law_bad_targets T.F_law_bad_targets.kp T.b_law_bad_targets .nil pass0 (pa_cons (pv 0) (pa_cons (pv 1) pa_nil))) (pg_tup rfl (pgs_cons (pg_name (i := 6) sc_law_right.nd rfl (Or.inr rfl)) (pgs_cons (pg_name (i := 7) sc_law_right.nd rfl (Or.inl rfl)) pgs_nil)))) (pss_cons (ps_set (i := 8) sc_law_right.nd rfl (Or.inr rfl) (pe_call (ok_law_bad_seat T) (hr.mono (by decide)) rfl T.m_law_bad_seat T.F_law_bad_seat.kp T.b_law_bad_seat .nil pass0 (pa_cons (pv 0) (pa_cons (pv 1) pa_nil)))) (pss_cons (ps_set (i := 9) sc_law_right.nd rfl (Or.inl rfl) (pe_call (ok_law_take T) (hr.mono (by decide)) rfl T.m_law_take T.F_law_take.kp T.b_law_take .nil pass0 (pa_cons (pv 0) (pa_cons (pe_op op_add (pe_callB call_len_seq (by rfl) T.z_len (by decide +kernel) (pa_cons (pv 5) pa_nil)) pe_int) pa_nil)))) (pss_cons (ps_set (i := 10) sc_law_right.nd rfl (Or.inr rfl) (pe_op (r := rCatR K) op_catR (pe_op (r := rCatR K) op_catR (pe_op (r := rCatR K) op_catR (pe_slice sl_list (pv 5) po_none (po_some (pv 9))) (pe_lst (pa_cons (pe_call (ok_law_bad_move T) (hr.mono (by decide)) rfl T.m_law_bad_move T.F_law_bad_move.kp T.b_law_bad_move .nil pass0 (pa_cons (pv 0) (pa_cons (pv 1) pa_nil))) pa_nil))) (pe_slice sl_list (pv 5) (po_some (pv 9)) po_none)) (pe_lst (pa_cons pe_non pa_nil)))) (pss_cons (ps_set (i := 11) sc_law_right.nd rfl (Or.inr rfl) (pe_call (ok_law_one T) (hr.mono (by decide)) rfl T.m_law_one T.F_law_one.kp T.b_law_one .nil pass0 (pa_cons (pv 0) (pa_cons (pe_lst (pa_cons pe_non (pa_cons pe_dnewK (pa_cons pe_str (pa_cons pe_int pa_nil))))) pa_nil)))) (pss_cons (ps_set (i := 12) sc_law_right.nd rfl (Or.inr rfl) (pe_call (ok_law_one T) (hr.mono (by decide)) rfl T.m_law_one T.F_law_one.kp T.b_law_one .nil pass0 (pa_cons (pv 0) (pa_cons (pe_lst (pa_cons pe_non (pa_cons (pv 1) (pa_cons (pe_callTy call_list_of (by rfl) T.z_list (by decide +kernel) (pa_cons (pv 1) pa_nil)) (pa_cons pe_str pa_nil))))) pa_nil)))) (pss_cons (ps_set (i := 13) sc_law_right.nd rfl (Or.inl rfl) (pe_lst (pa_cons (pe_tup (pa_cons pe_str (pa_cons pe_non pa_nil))) (pa_cons (pe_tup (pa_cons pe_str (pa_cons (pv 7) pa_nil))) (pa_cons (pe_tup (pa_cons pe_str (pa_cons (pe_callB (r := CG.rReprA K) (CG.cr_reprA L.sysb gd (have z := u65 hr; z)) (by rfl) T.z_repr (by decide +kernel) (pa_cons (pv 8) pa_nil)) pa_nil))) (pa_cons (pe_tup (pa_cons pe_str (pa_cons (pv 9) pa_nil))) (pa_cons (pe_tup (pa_cons pe_str (pa_cons (pe_un un_neg pe_int) pa_nil))) (pa_cons pe_non pa_nil)))))))) (pss_cons (ps_set (i := 14) sc_law_right.nd rfl (Or.inl rfl) (pe_lst (pa_cons (CG.pe_said1T T.F_law_raised T.b_law_raised sc_law_raised rfl T.m_law_raised rfl (by exact Or.inl rfl) (gives_law_raised T L 9) gd hr L.tb_law_right rfl (by exact L.hm_law_right) (by exact L.one_law_right) (fun A outer s H E f c hr => (pe_make T.M_Record (okX_Record_init T) (hr.mono (by decide)) rfl T.m_Record T.b_Record_init .nil (passes_call (takes_of rfl rfl rfl rfl) (fun _ _ _ _ h => h)) (pa_cons (pv 12) (pa_cons (pv 6) (pa_cons (pv 8) (pa_cons (pv 10) pa_nil)))))) (show LamX.LamS (defScope s_law_right) _ from LamX.lamS_by (by decide +kernel))) pa_nil))) (pss_cons (ps_expr (pe_bm PySem.F.plainAttrs_list PySem.F.slot_list_append PySem.F.type_list_append mt_append (pv 14) (pa_cons (CG.pe_said1T T.F_law_raised T.b_law_raised sc_law_raised rfl T.m_law_raised rfl (by exact Or.inl rfl) (gives_law_raised T L 9) gd hr L.tb_law_right rfl (by exact L.hm_law_right) (by exact L.one_law_right) (fun A outer s H E f c hr => (pe_make T.M_Record (okX_Record_init T) (hr.mono (by decide)) rfl T.m_Record T.b_Record_init .nil (passes_call (takes_of rfl rfl rfl rfl) (fun _ _ _ _ h => h)) (pa_cons (pv 2) (pa_cons (pv 6) (pa_cons (pv 8) (pa_cons (pv 10) pa_nil)))))) (show LamX.LamS (defScope s_law_right) _ from LamX.lamS_by (by decide +kernel))) pa_nil))) (pss_cons (ps_expr (pe_bm PySem.F.plainAttrs_list PySem.F.slot_list_append PySem.F.type_list_append mt_append (pv 14) (pa_cons (CG.pe_said1T T.F_law_raised T.b_law_raised sc_law_raised rfl T.m_law_raised rfl (by exact Or.inl rfl) (gives_law_raised T L 9) gd hr L.tb_law_right rfl (by exact L.hm_law_right) (by exact L.one_law_right) (fun A outer s H E f c hr => (pe_make T.M_Record (okX_Record_init T) (hr.mono (by decide)) rfl T.m_Record T.b_Record_init .nil (passes_call (takes_of rfl rfl rfl rfl) (fun _ _ _ _ h => h)) (pa_cons (pv 2) (pa_cons (pv 3) (pa_cons (pv 8) (pa_cons (pv 10) pa_nil)))))) (show LamX.LamS (defScope s_law_right) _ from LamX.lamS_by (by decide +kernel))) pa_nil))) (pss_cons (ps_expr (pe_bm PySem.F.plainAttrs_list PySem.F.slot_list_append PySem.F.type_list_append mt_append (pv 14) (pa_cons (CG.pe_said1T T.F_law_raised T.b_law_raised sc_law_raised rfl T.m_law_raised rfl (by exact Or.inl rfl) (gives_law_raised T L 9) gd hr L.tb_law_right rfl (by exact L.hm_law_right) (by exact L.one_law_right) (fun A outer s H E f c hr => (pe_make T.M_Record (okX_Record_init T) (hr.mono (by decide)) rfl T.m_Record T.b_Record_init .nil (passes_call (takes_of rfl rfl rfl rfl) (fun _ _ _ _ h => h)) (pa_cons (pv 2) (pa_cons (pv 3) (pa_cons (pv 4) (pa_cons (pv 10) pa_nil)))))) (show LamX.LamS (defScope s_law_right) _ from LamX.lamS_by (by decide +kernel))) pa_nil))) (pss_cons (ps_expr (pe_bm PySem.F.plainAttrs_list PySem.F.slot_list_append PySem.F.type_list_append mt_append (pv 14) (pa_cons (CG.pe_said1T T.F_law_raised T.b_law_raised sc_law_raised rfl T.m_law_raised rfl (by exact Or.inl rfl) (gives_law_raised T L 9) gd hr L.tb_law_right rfl (by exact L.hm_law_right) (by exact L.one_law_right) (fun A outer s H E f c hr => (pe_make T.M_Record (okX_Record_init T) (hr.mono (by decide)) rfl T.m_Record T.b_Record_init .nil (passes_call (takes_of rfl rfl rfl rfl) (fun _ _ _ _ h => h)) (pa_cons (pv 2) (pa_cons (pv 3) (pa_cons (pv 4) (pa_cons (pv 11) pa_nil)))))) (show LamX.LamS (defScope s_law_right) _ from LamX.lamS_by (by decide +kernel))) pa_nil))) (pss_cons (ps_expr (pe_bm PySem.F.plainAttrs_list PySem.F.slot_list_append PySem.F.type_list_append mt_append (pv 14) (pa_cons (CG.pe_said1T T.F_law_raised T.b_law_raised sc_law_raised rfl T.m_law_raised rfl (by exact Or.inl rfl) (gives_law_raised T L 9) gd hr L.tb_law_right rfl (by exact L.hm_law_right) (by exact L.one_law_right) (fun A outer s H E f c hr => (pe_make T.M_Record (okX_Record_init T) (hr.mono (by decide)) rfl T.m_Record T.b_Record_init .nil (passes_call (takes_of rfl rfl rfl rfl) (fun _ _ _ _ h => h)) (pa_cons (pv 2) (pa_cons (pv 3) (pa_cons (pv 4) (pa_cons (pe_callTy (r := rTupleQ K) call_tuple_of (by rfl) T.z_tuple (by decide +kernel) (pa_cons (pv 5) pa_nil)) pa_nil)))))) (show LamX.LamS (defScope s_law_right) _ from LamX.lamS_by (by decide +kernel))) pa_nil))) (pss_cons (ps_if (pt_cmpR (r := rNeD K) (op_neD hr.units) (pv 14) (pv 13) (nomark _)) (pss_one (ps_ret pe_bl)) pss_nil) (pss_cons (ps_set (i := 14) sc_law_right.nd rfl (Or.inl rfl) (pe_lst (pa_cons (CG.pe_said1T T.F_law_raised T.b_law_raised sc_law_raised rfl T.m_law_raised rfl (by exact Or.inl rfl) (gives_law_raised T L 9) gd hr L.tb_law_right rfl (by exact L.hm_law_right) (by exact L.one_law_right) (fun A outer s H E f c hr => (pe_call (okX_consistent_witnesses T) (hr.mono (by decide)) rfl T.m_consistent_witnesses T.F_consistent_witnesses.kp T.b_consistent_witnesses .nil (passes_call (takes_of rfl rfl rfl rfl) (fun _ _ _ _ h => h)) (pa_cons (pv 12) (pa_cons (pv 8) (pa_cons (pv 10) pa_nil))))) (show LamX.LamS (defScope s_law_right) _ from LamX.lamS_by (by decide +kernel))) pa_nil))) (pss_cons (ps_expr (pe_bm PySem.F.plainAttrs_list PySem.F.slot_list_append PySem.F.type_list_append mt_append (pv 14) (pa_cons (CG.pe_said1T T.F_law_raised T.b_law_raised sc_law_raised rfl T.m_law_raised rfl (by exact Or.inl rfl) (gives_law_raised T L 9) gd hr L.tb_law_right rfl (by exact L.hm_law_right) (by exact L.one_law_right) (fun A outer s H E f c hr => (pe_call (okX_consistent_witnesses T) (hr.mono (by decide)) rfl T.m_consistent_witnesses T.F_consistent_witnesses.kp T.b_consistent_witnesses .nil (passes_call (takes_of rfl rfl rfl rfl) (fun _ _ _ _ h => h)) (pa_cons (pv 2) (pa_cons (pv 8) (pa_cons (pv 10) pa_nil))))) (show LamX.LamS (defScope s_law_right) _ from LamX.lamS_by (by decide +kernel))) pa_nil))) (pss_cons (ps_expr (pe_bm PySem.F.plainAttrs_list PySem.F.slot_list_append PySem.F.type_list_append mt_append (pv 14) (pa_cons (CG.pe_said1T T.F_law_raised T.b_law_raised sc_law_raised rfl T.m_law_raised rfl (by exact Or.inl rfl) (gives_law_raised T L 9) gd hr L.tb_law_right rfl (by exact L.hm_law_right) (by exact L.one_law_right) (fun A outer s H E f c hr => (pe_call (okX_consistent_witnesses T) (hr.mono (by decide)) rfl T.m_consistent_witnesses T.F_consistent_witnesses.kp T.b_consistent_witnesses .nil (passes_call (takes_of rfl rfl rfl rfl) (fun _ _ _ _ h => h)) (pa_cons (pv 2) (pa_cons (pv 4) (pa_cons (pv 10) pa_nil))))) (show LamX.LamS (defScope s_law_right) _ from LamX.lamS_by (by decide +kernel))) pa_nil))) (pss_cons (ps_expr (pe_bm PySem.F.plainAttrs_list PySem.F.slot_list_append PySem.F.type_list_append mt_append (pv 14) (pa_cons (CG.pe_said1T T.F_law_raised T.b_law_raised sc_law_raised rfl T.m_law_raised rfl (by exact Or.inl rfl) (gives_law_raised T L 9) gd hr L.tb_law_right rfl (by exact L.hm_law_right) (by exact L.one_law_right) (fun A outer s H E f c hr => (pe_call (okX_consistent_witnesses T) (hr.mono (by decide)) rfl T.m_consistent_witnesses T.F_consistent_witnesses.kp T.b_consistent_witnesses .nil (passes_call (takes_of rfl rfl rfl rfl) (fun _ _ _ _ h => h)) (pa_cons (pv 2) (pa_cons (pv 4) (pa_cons (pv 11) pa_nil))))) (show LamX.LamS (defScope s_law_right) _ from LamX.lamS_by (by decide +kernel))) pa_nil))) (pss_one (ps_ret (pe_cmpR (r := rEqD K) (op_eqD hr.units) (pv 14) (pe_lst (pa_cons (pe_ix ix_list (pv 13) pe_int (fun _ _ => rfl)) (pa_cons (pe_ix ix_list (pv 13) pe_int (fun _ _ => rfl)) (pa_cons (pe_ix ix_list (pv 13) pe_int (fun _ _ => rfl)) (pa_cons (pe_ix ix_list (pv 13) pe_int (fun _ _ => rfl)) pa_nil))))) (nomark _)))))))))))))))))))))))), ?_⟩
    have l4 := ok.le
    unfold tNoPart
    refine ⟨_, rfl, ?_⟩
    refine mk_tab (b := true) (show SqH H0 (true, l) _ from hl) ok fun tb H1 e1 ntb tab => ?_
    have hl1 := e1 _ _ hl
    have src1 := src.mono e1
    refine ⟨_, rfl, _, rfl, s, l, ns, 3, rfl, src1, hl1, ok, le, by decide, by decide, fun f tss H2 nf ra ne lt sks nod xb2 src2 => ⟨slen rfl, ?_⟩⟩
    have nfs := src1.ne nf
    (intro q1 nq1; generalize hGq1 : upd _ q1 _ = H3; have eH3 := exG hGq1 nq1; have hq1 := atG hGq1; clear hGq1)
    refine ⟨q1, _, rfl, SqT.of hq1, rfl, _, _, rfl, _, _, rfl, rfl, ?_⟩
    have X3 : XN s H0 H3 := (XN.of e1).trans ((XN.xb xb2).trans (XN.of eH3))
    have tab3 := ((XN.xb xb2).trans (XN.of eH3)).tab src1 tab
    have ra3 := ra.mono eH3
    have src3 := src2.mono eH3
    have hl3 := X3.tup src hl
    have tabs3 := (Tabs.xb (tabs.ext e1) src1 xb2).ext eH3
    clear hq1 eH3 xb2 e1 ra src2 src1 hl1 tab tabs nq1
    dsimp only [gName]
    show tSeq _ _ _ [_, _, _, _, _, _, _, _, _, _, _, _, _, _, _] _
    refine ⟨_, rfl, _, rfl, s, l, ns, rfl, src3, hl3, ok, le, fun st p H4 nst hst skp xb4 src4 => ?_⟩
    have hl4 := tup_xb src3 hl3 xb4
    refine ⟨_, rfl, _, rfl, s, l, ns, 5, rfl, src4, hl4, ok, le, by decide, by decide, fun gl ms H5 ngl good5 lm cl xb5 src5 => ⟨slen rfl, ?_⟩⟩
    obtain ⟨xs, hgl5, mr5⟩ := good5
    have ngls := src4.ne ngl
    (intro q2 nq2; generalize hGq2 : upd _ q2 _ = H6; have eH6 := exG hGq2 nq2; have hq2 := atG hGq2; clear hGq2)
    refine ⟨q2, _, rfl, SqT.of hq2, rfl, _, _, rfl, _, _, rfl, rfl, ?_⟩
    have xb36 : XB s H3 H6 := xb4.trans (xb5.trans (XB.of eH6))
    have X6 := X3.trans (XN.xb xb36)
    have tab6 := (XN.xb xb36).tab src3 tab3
    have ra6 := (XN.xb xb36).rows src3 nfs ra3
    have src6 := src5.mono eH6
    have hl6 := tup_xb src3 hl3 xb36
    have tabs6 := Tabs.xb tabs3 src3 xb36
    have hst6 := eH6 _ _ (tup_xb src4 hst xb5)
    have hgl6 := eH6 _ _ hgl5
    have mr6 := mr5.mono eH6
    clear hq2 eH6 xb5 xb4 xb36 hl4 hl3 src5 src4 mr5 hgl5 hst nst ngl tabs3 ra3 tab3 X3 src3 nf nq2
    dsimp only [gName]
    show tSeq _ _ _ [_, _, _, _, _, _, _, _, _, _, _, _, _, _, _] _
    refine ⟨_, rfl, _, rfl, s, l, ns, rfl, src6, hl6, ok, le, fun vp H7 pr xb7 src7 => ?_⟩
    obtain ⟨rp, vW, i, od, rfl, hrp, bg7⟩ := pr
    refine ⟨rp, _, rfl, SqT.of hrp, rfl, _, _, rfl, _, _, rfl, rfl, ?_⟩
    have hl7 := tup_xb src6 hl6 xb7
    dsimp only [gName]
    show tSeq _ _ _ [_, _, _, _, _, _, _, _, _, _, _, _, _, _, _] _
    refine ⟨_, rfl, _, rfl, s, l, ns, rfl, src7, hl7, ok, le, fun vB dB H8 qB8 bads xb8 src8 => ?_⟩
    have hl8 := tup_xb src7 hl7 xb8
    have xb68 := xb7.trans xb8
    have hgl8 := xb68 _ _ ngls hgl6
    dsimp only [gName]
    show tSeq _ _ _ [_, _, _, _, _, _, _, _, _, _, _, _, _, _, _] _
    have lxs := mr6.len
    have lm5 : ms.length ≤ 5 := lm
    refine ⟨_, rfl, _, rfl, gl, _, rfl, .inl (SqL.of hgl8), _, _, rfl, rfl, s, ((xs.length : Nat) : Int) + 1, rfl, src8, by omega, Nat.lt_of_le_of_lt (show (((xs.length : Nat) : Int) + 1).natAbs ≤ 6 by omega) (by decide +kernel), fun r H9 r0 r1 xb9 src9 => ?_⟩
    obtain ⟨j, rfl⟩ := Int.eq_ofNat_of_zero_le r0
    have jl : j ≤ ms.length := by omega
    have xb69 := xb68.trans xb9
    have hgl9 := xb69 _ _ ngls hgl6
    have hl9 := tup_xb src8 hl8 xb9
    dsimp only [gName]
    show tSeq _ _ _ [_, _, _, _, _, _, _, _, _, _, _, _, _, _, _] _
    refine ⟨_, rfl, _, rfl, (j : Int), rfl, gl, _, rfl, SqL.of hgl9, ?_⟩
    (intro a1 na1; generalize hGa1 : upd _ a1 _ = Ga; have eGa := exG hGa1 na1; have ha1 := atG hGa1; clear hGa1)
    rw [cut_to] at ha1
    have srca := src9.mono eGa
    have na1s := src9.ne na1
    refine ⟨_, rfl, _, rfl, s, l, ns, rfl, srca, eGa _ _ hl9, ok, le, fun vM dM Gb qM bM xbb srcb => ⟨slen rfl, ?_⟩⟩
    (intro m1 nm1; generalize hGm1 : upd _ m1 _ = Gc; have eGc := exG hGm1 nm1; have hm1 := atG hGm1; clear hGm1)
    have hglc := eGc _ _ (xbb _ _ ngls (eGa _ _ hgl9))
    refine ⟨a1, m1, _, _, rfl, rfl, SqL.of (eGc _ _ (xbb _ _ na1s ha1)), SqL.of hm1, (by rw [List.length_take]; exact Nat.le_trans (show min j xs.length + 1 ≤ 8 by omega) (by decide)), ?_⟩
    (intro c1 nc1; generalize hGc1 : upd _ c1 _ = Gd; have eGd := exG hGc1 nc1; have hc1 := atG hGc1; clear hGc1)
    refine ⟨_, rfl, _, rfl, (j : Int), rfl, gl, _, rfl, SqL.of (eGd _ _ hglc), ?_⟩
    (intro a2 na2; generalize hGa2 : upd _ a2 _ = Ge; have eGe := exG hGa2 na2; have ha2 := atG hGa2; clear hGa2)
    rw [cut_from] at ha2
    refine ⟨c1, a2, _, _, rfl, rfl, SqL.of (eGe _ _ hc1), SqL.of ha2, (by rw [List.length_append, List.length_take, List.length_drop]; exact Nat.le_trans (show min j xs.length + 1 + (xs.length - j) ≤ 8 by omega) (by decide)), ?_⟩
    (intro c2 nc2; generalize hGc2 : upd _ c2 _ = Gf; have eGf := exG hGc2 nc2; have hc2 := atG hGc2; clear hGc2)
    refine ⟨slen rfl, ?_⟩
    (intro n1 nn1; generalize hGn1 : upd _ n1 _ = Gg; have eGg := exG hGn1 nn1; have hn1 := atG hGn1; clear hGn1)
    refine ⟨c2, n1, _, _, rfl, rfl, SqL.of (eGg _ _ hc2), SqL.of hn1, (by rw [List.length_append, List.length_append, List.length_take, List.length_drop]; exact Nat.le_trans (show min j xs.length + 1 + (xs.length - j) + 1 ≤ 9 by omega) (by decide)), ?_⟩
    (intro br nbr; generalize hGbr : upd _ br _ = Gh; have eGh := exG hGbr nbr; have hbr := atG hGbr; clear hGbr)
    have ech := ext eGd (ext eGe (ext eGf (ext eGg eGh)))
    have xb9h : XB s H9 Gh := (XB.of eGa).trans (xbb.trans (XB.of (ext eGc ech)))
    have xb8h : XB s H8 Gh := xb9.trans xb9h
    have nbrs := (srcb.mono (ext eGc (ext eGd (ext eGe (ext eGf eGg))))).ne nbr
    have mr9 : MovR Gh xs ms := mr6.xn src6 (XN.xb (xb69.trans xb9h))
    have brk : ∃ xs ds, Gh br = some (.lst xs) ∧ DqAll (· ≠ s) Gh xs ds ∧ (∀ d ∈ ds, ShortM d) ∧ goM ns ds 0 = some (j : Int) := by
      refine ⟨_, (ms.take j).map iM ++ [dM] ++ (ms.drop j).map iM ++ [.none], hbr, ((DqAll.app ?_ (.cons (qM.mono (ext eGc ech)) .nil)).app ?_).app (.cons .non .nil), ?_, ?_⟩
      · exact (movR_take j mr9).dq
      · exact (movR_drop j mr9).dq
      · intro d hd
        simp only [List.mem_append, List.mem_singleton, List.mem_map] at hd
        rcases hd with ((⟨m, hm, rfl⟩ | rfl) | ⟨m, hm, rfl⟩) | rfl
        · exact short_mov l4 (cl m (List.mem_of_mem_take hm))
        · exact bM.short
        · exact short_mov l4 (cl m (List.mem_of_mem_drop hm))
        · exact fun es z => nomatch z
      · rw [List.append_assoc, List.append_assoc, goM_app fun m hm => cl m (List.mem_of_mem_take hm), List.singleton_append]
        rw [goM_stop bM.no, List.length_take, Nat.zero_add, Nat.min_eq_left jl]
    have srch := srcb.mono (ext eGc ech)
    have XGh : XB s H6 Gh := xb69.trans xb9h
    have hlh := tup_xb src6 hl6 XGh
    clear hbr hn1 hc2 ha2 hc1 hm1 ha1 hglc qM bM ech eGh eGg eGf eGe eGd eGc xbb eGa xb9h hgl9 hl9 hgl8 hl8 hl7 nn1 nc2 na2 nc1 nm1 na1 na1s srca srcb nbr mr9
    dsimp only [gName]
    show tSeq _ _ _ [_, _, _, _, _, _, _, _, _, _, _, _, _, _, _] _
    refine ⟨_, rfl, fun d1 nd1 => ?_⟩
    generalize hG : upd Gh d1 _ = K1
    have eK1 := exG hG nd1
    have hd1 := atG hG
    clear hG
    refine ⟨slen rfl, ?_⟩
    (intro w1 nw1; generalize hGw1 : upd _ w1 _ = K2; have eK2 := exG hGw1 nw1; have hw1 := atG hGw1; clear hGw1)
    have src2 := srch.mono (ext eK1 eK2)
    refine ⟨s, w1, _, rfl, src2, hw1, (srch.mono eK1).ne nw1, (by simp), (by show 4 ≤ 1000; decide), fun vN K3 hv xb3 src3 => ?_⟩
    have nN : NoSeq K3 vN := by
      have : NoSeq K2 vN := by
        simp only [List.mem_cons, List.not_mem_nil, or_false] at hv
        rcases hv with rfl | rfl | rfl | rfl
        · exact .inl rfl
        · exact .inr (.inr (.inr (.inr ⟨_, rfl, .inl ⟨_, eK2 _ _ hd1⟩⟩)))
        · exact .inr (.inr (.inr (.inl ⟨_, rfl⟩)))
        · exact .inr (.inr (.inl ⟨_, rfl⟩))
      exact this.xb src2 xb3
    have xbA : XB s Gh K3 := (XB.of (ext eK1 eK2)).trans xb3
    have hl3 := tup_xb srch hlh xbA
    clear hv xb3 src2 hw1 nw1 eK2 hd1 eK1 nd1
    dsimp only [gName]
    show tSeq _ _ _ [_, _, _, _, _, _, _, _, _, _, _, _, _, _, _] _
    refine ⟨_, rfl, _, rfl, _, rfl, l, _, rfl, .inr (SqT.of hl3), ?_⟩
    (intro w2 nw2; generalize hGw2 : upd _ w2 _ = K4; have eK4 := exG hGw2 nw2; have hw2 := atG hGw2; clear hGw2)
    refine ⟨slen rfl, ?_⟩
    (intro w3 nw3; generalize hGw3 : upd _ w3 _ = K5; have eK5 := exG hGw3 nw3; have hw3 := atG hGw3; clear hGw3)
    have src5 := src3.mono (ext eK4 eK5)
    refine ⟨s, w3, _, rfl, src5, hw3, (src3.mono eK4).ne nw3, (by simp), (by show 4 ≤ 1000; decide), fun vT K6 hv xb6 src6b => ?_⟩
    have dT : ∃ d, Dq (· ≠ s) K6 vT d := by
      have : ∃ d, Dq (· ≠ s) K5 vT d := by
        simp only [List.mem_cons, List.not_mem_nil, or_false] at hv
        rcases hv with rfl | rfl | rfl | rfl
        · exact ⟨_, .non⟩
        · exact ⟨_, Dq.ints ((ext eK4 eK5) _ _ hl3)⟩
        · exact ⟨_, .lst (eK5 _ _ hw2) (src3.ne nw2) (DqAll.ints ns)⟩
        · exact ⟨_, .str _⟩
      obtain ⟨d, q⟩ := this
      exact ⟨d, q.xb src5 xb6⟩
    have xbB : XB s K3 K6 := (XB.of (ext eK4 eK5)).trans xb6
    have xbC := xbA.trans xbB
    have xbD : XB s H6 K6 := XGh.trans xbC
    have xb86 : XB s H8 K6 := xb8h.trans xbC
    have xb76 : XB s H7 K6 := xb8.trans xb86
    clear hv xb6 src5 hw3 nw3 eK5 hw2 nw2 eK4
    dsimp only [gName]
    show tSeq _ _ _ [_, _, _, _, _, _, _, _, _, _, _, _, _, _, _] _
    refine ⟨slen rfl, ?_⟩
    (intro d1 nd1; generalize hGd1 : upd _ d1 _ = M1; have eM1 := exG hGd1 nd1; have hd1 := atG hGd1; clear hGd1)
    refine ⟨_, rfl, slen rfl, ?_⟩
    (intro d2 nd2; generalize hGd2 : upd _ d2 _ = M2; have eM2 := exG hGd2 nd2; have hd2 := atG hGd2; clear hGd2)
    have qB6 := qB8.xb src8 xb86
    have shB := qB6.shA (K := K) bads.sh _ (ext eM1 eM2)
    refine ⟨_, rfl, _, dB, rfl, shB.de, shB.sh, shB.len, shB.dep, slen rfl, ?_⟩
    (intro d3 nd3; generalize hGd3 : upd _ d3 _ = M3; have eM3 := exG hGd3 nd3; have hd3 := atG hGd3; clear hGd3)
    refine ⟨_, rfl, slen rfl, ?_⟩
    (intro d4 nd4; generalize hGd4 : upd _ d4 _ = M4; have eM4 := exG hGd4 nd4; have hd4 := atG hGd4; clear hGd4)
    refine ⟨_, rfl, slen rfl, ?_⟩
    (intro d5 nd5; generalize hGd5 : upd _ d5 _ = M5; have eM5 := exG hGd5 nd5; have hd5 := atG hGd5; clear hGd5)
    refine ⟨slen rfl, ?_⟩
    (intro du ndu; generalize hGdu : upd _ du _ = M6; have eM6 := exG hGdu ndu; have hdu := atG hGdu; clear hGdu)
    have v5 := eM6
    have v4 := ext eM5 v5
    have v3 := ext eM4 v4
    have v2 := ext eM3 v3
    have v1 := ext eM2 v2
    have v0 := ext eM1 v1
    have ndus := (src6b.mono (ext eM1 (ext eM2 (ext eM3 (ext eM4 eM5))))).ne ndu
    have srcM := src6b.mono v0
    have p1 : PdO M6 (.ref d1) (.tuple [.str "table", .none]) := PdO.none (v1 _ _ hd1) (sk_of _)
    have p2 : PdO M6 (.ref d2) (.tuple [.str "targets", .int i]) := PdO.int (v2 _ _ hd2) (sk_of _)
    have p3 : PdO M6 (.ref d3) (.tuple [.str "seat", .str dB.shown]) := PdO.two (v3 _ _ hd3) (sk_of _) bads.sh.2
    have p4 : PdO M6 (.ref d4) (.tuple [.str "moves", .int j]) := PdO.int (v4 _ _ hd4) (sk_of _)
    have p5 : PdO M6 (.ref d5) (.tuple [.str "moves", .int (-1)]) := PdO.int (v5 _ _ hd5) (sk_of _)
    have sc : Sc s T.C_Table K6 ns tb f st gl br vT vW vB vN dB i j := by
      refine ⟨src6b, (XN.xb xbD).tab src6 tab6, ok, dT, ⟨od, bg7.xb src7 xb76⟩, qB6, bads, ⟨tss, (XN.xb xbD).rows src6 nfs ra6, ne, by have : tss.length ≤ 3 := lt; exact this, sks, nod⟩, nfs, ⟨p, tup_xb src6 hst6 xbD, skp⟩, ⟨xs, ms, xbD _ _ ngls hgl6, mr6.xn src6 (XN.xb xbD), lm5, cl⟩, ngls, ?_, nbrs, nN.xb src3 xbB⟩
      obtain ⟨zs, ds, b1, b2, b3⟩ := brk
      exact ⟨zs, ds, xbC _ _ nbrs b1, b2.xb srch xbC, b3⟩
    have scM := sc.xn (XN.of v0) srcM
    have XM : XN s H0 M6 := X6.trans ((XN.xb xbD).trans (XN.of v0))
    have tabsM := (Tabs.xb tabs6 src6 xbD).ext v0
    clear sc brk nN dT xbD xbC xbB xb76 xb86 xbA XGh xb8h xb69 xb68 xb9 xb8 xb7 v0 v1 v2 v3 v4 v5 hd1 hd2 hd3 hd4 hd5 shB qB6 qB8 bg7 tabs6 X6 tab6 ra6 mr6 hl6 hst6 hgl6 eM1 eM2 eM3 eM4 eM5 eM6 src3 srch src9 src8 src7 src6 src6b hlh hl3 hrp nd1 nd2 nd3 nd4 nd5 ndu
    dsimp only [gName]
    show tSeq _ _ _ [_, _, _, _, _, _, _, _, _, _, _, _, _, _, _] _
    -- asks
    have noT : ∀ t ∈ ["NoneType", "bool", "int", "str", "list", "tuple", "dict"], PySem.W.kitOne K (.type t) (.ref T.C_Table) = some false := fun t ht => by
      simp only [List.mem_cons, List.not_mem_nil, or_false] at ht
      rcases ht with rfl | rfl | rfl | rfl | rfl | rfl | rfl
      · exact CG.kit1 T.ki_NoneType_Table
      · exact CG.kit1 T.ki_bool_Table
      · exact CG.kit1 T.ki_int_Table
      · exact CG.kit1 T.ki_str_Table
      · exact CG.kit1 T.ki_list_Table
      · exact CG.kit1 T.ki_tuple_Table
      · exact CG.kit1 T.ki_dict_Table
    refine ⟨tabsM, fun Ga0 ena0 tba0 => ?_⟩
    have srca0 := srcM.en ena0
    have sca0 := scM.xn (XN.en ena0) srca0
    refine ⟨_, rfl, _, rfl, _, rfl, _, rfl, ?_⟩
    refine fun x dx nx ndx _ => ?_
    have eX : Ex Ga0 (upd (upd Ga0 dx (.own x)) x (.ins T.C_Record dx [])) := fun c o z => by
      rw [upd_ne (ne_of_none z nx), upd_ne (ne_of_none z ndx)]
      exact z
    refine ⟨x, dx, _, _, _, _, Ga0, rfl, upd_same, nx, eX, sca0.rec1 noT fun Ra0 ra0 ea0 two => ?_⟩
    clear eX nx ndx
    refine ⟨slen rfl, ?_⟩
    (intro fla nfla; generalize hGfla : upd _ fla _ = Na0; have eNa0 := exG hGfla nfla; have hfla := atG hGfla; clear hGfla)
    have Fa0 : Fd fla M6 Na0 [V.ref ra0] ([.tuple [.str "table", .none]] : List PyData) := ⟨EA.start (LamX.ExtN.trans ena0 (LamX.ExtN.of ea0)) nfla eNa0, hfla, .cons ((PdO.none two (sk_of _)).mono eNa0) .nil⟩
    have tbsa0 := (tba0.ext ea0).ext eNa0
    clear srca0 sca0 ena0 tba0 ea0 two eNa0 hfla nfla
    dsimp only [gName]
    show tSeq _ _ _ [_, _, _, _, _, _, _, _, _, _, _, _, _, _, _] _
    refine ⟨_, rfl, .inl ⟨rfl, _, SqL.of Fa0.h⟩, tbsa0, fun Ga1 ena1 tba1 => ?_⟩
    have srca1 := (Fa0.ea.ext ena1).src srcM
    have sca1 := scM.xn (Fa0.ea.ext ena1).xn srca1
    refine ⟨_, rfl, _, rfl, _, rfl, _, rfl, ?_⟩
    refine fun x dx nx ndx _ => ?_
    have eX : Ex Ga1 (upd (upd Ga1 dx (.own x)) x (.ins T.C_Record dx [])) := fun c o z => by
      rw [upd_ne (ne_of_none z nx), upd_ne (ne_of_none z ndx)]
      exact z
    refine ⟨x, dx, _, _, _, _, Ga1, rfl, upd_same, nx, eX, sca1.rec2 fun Ra1 ra1 ea1 two => ?_⟩
    clear eX nx ndx
    have hla1 := ea1 _ _ (ena1 _ _ Fa0.h (fun _ z => nomatch z))
    refine ⟨fla, _, _, rfl, rfl, hla1, (by show 1 < sizeLine; decide), ?_⟩
    have Fa1 : Fd fla M6 (upd Ra1 fla (.lst [V.ref ra0, V.ref ra1])) [V.ref ra0, V.ref ra1] ([.tuple [.str "table", .none], .tuple [.str "targets", .int i]] : List PyData) := Fa0.step ena1 ea1 (PdO.int two (sk_of _))
    have tbsa1 := tabs_updl (ys := [V.ref ra0, V.ref ra1]) hla1 (tba1.ext ea1)
    clear srca1 sca1 ena1 tba1 ea1 hla1 Fa0 tbsa0 two
    show tSeq _ _ _ [_, _, _, _, _, _, _, _, _, _, _, _, _, _, _] (upd Ra1 fla (.lst [V.ref ra0, V.ref ra1]))
    generalize upd Ra1 fla (.lst [V.ref ra0, V.ref ra1]) = Na1 at Fa1 tbsa1 ⊢
    refine ⟨_, rfl, .inl ⟨rfl, _, SqL.of Fa1.h⟩, tbsa1, fun Ga2 ena2 tba2 => ?_⟩
    have srca2 := (Fa1.ea.ext ena2).src srcM
    have sca2 := scM.xn (Fa1.ea.ext ena2).xn srca2
    refine ⟨_, rfl, _, rfl, _, rfl, _, rfl, ?_⟩
    refine fun x dx nx ndx _ => ?_
    have eX : Ex Ga2 (upd (upd Ga2 dx (.own x)) x (.ins T.C_Record dx [])) := fun c o z => by
      rw [upd_ne (ne_of_none z nx), upd_ne (ne_of_none z ndx)]
      exact z
    refine ⟨x, dx, _, _, _, _, Ga2, rfl, upd_same, nx, eX, sca2.rec3 fun Ra2 ra2 ea2 two => ?_⟩
    clear eX nx ndx
    have hla2 := ea2 _ _ (ena2 _ _ Fa1.h (fun _ z => nomatch z))
    refine ⟨fla, _, _, rfl, rfl, hla2, (by show 2 < sizeLine; decide), ?_⟩
    have Fa2 : Fd fla M6 (upd Ra2 fla (.lst [V.ref ra0, V.ref ra1, V.ref ra2])) [V.ref ra0, V.ref ra1, V.ref ra2] ([.tuple [.str "table", .none], .tuple [.str "targets", .int i], .tuple [.str "seat", .str dB.shown]] : List PyData) := Fa1.step ena2 ea2 (PdO.two two (sk_of _) bads.sh.2)
    have tbsa2 := tabs_updl (ys := [V.ref ra0, V.ref ra1, V.ref ra2]) hla2 (tba2.ext ea2)
    clear srca2 sca2 ena2 tba2 ea2 hla2 Fa1 tbsa1 two
    show tSeq _ _ _ [_, _, _, _, _, _, _, _, _, _, _, _, _, _, _] (upd Ra2 fla (.lst [V.ref ra0, V.ref ra1, V.ref ra2]))
    generalize upd Ra2 fla (.lst [V.ref ra0, V.ref ra1, V.ref ra2]) = Na2 at Fa2 tbsa2 ⊢
    refine ⟨_, rfl, .inl ⟨rfl, _, SqL.of Fa2.h⟩, tbsa2, fun Ga3 ena3 tba3 => ?_⟩
    have srca3 := (Fa2.ea.ext ena3).src srcM
    have sca3 := scM.xn (Fa2.ea.ext ena3).xn srca3
    refine ⟨_, rfl, _, rfl, _, rfl, _, rfl, ?_⟩
    refine fun x dx nx ndx _ => ?_
    have eX : Ex Ga3 (upd (upd Ga3 dx (.own x)) x (.ins T.C_Record dx [])) := fun c o z => by
      rw [upd_ne (ne_of_none z nx), upd_ne (ne_of_none z ndx)]
      exact z
    refine ⟨x, dx, _, _, _, _, Ga3, rfl, upd_same, nx, eX, sca3.rec4 fun Ra3 ra3 ea3 two => ?_⟩
    clear eX nx ndx
    have hla3 := ea3 _ _ (ena3 _ _ Fa2.h (fun _ z => nomatch z))
    refine ⟨fla, _, _, rfl, rfl, hla3, (by show 3 < sizeLine; decide), ?_⟩
    have Fa3 : Fd fla M6 (upd Ra3 fla (.lst [V.ref ra0, V.ref ra1, V.ref ra2, V.ref ra3])) [V.ref ra0, V.ref ra1, V.ref ra2, V.ref ra3] ([.tuple [.str "table", .none], .tuple [.str "targets", .int i], .tuple [.str "seat", .str dB.shown], .tuple [.str "moves", .int j]] : List PyData) := Fa2.step ena3 ea3 (PdO.int two (sk_of _))
    have tbsa3 := tabs_updl (ys := [V.ref ra0, V.ref ra1, V.ref ra2, V.ref ra3]) hla3 (tba3.ext ea3)
    clear srca3 sca3 ena3 tba3 ea3 hla3 Fa2 tbsa2 two
    show tSeq _ _ _ [_, _, _, _, _, _, _, _, _, _, _, _, _, _, _] (upd Ra3 fla (.lst [V.ref ra0, V.ref ra1, V.ref ra2, V.ref ra3]))
    generalize upd Ra3 fla (.lst [V.ref ra0, V.ref ra1, V.ref ra2, V.ref ra3]) = Na3 at Fa3 tbsa3 ⊢
    refine ⟨_, rfl, .inl ⟨rfl, _, SqL.of Fa3.h⟩, tbsa3, fun Ga4 ena4 tba4 => ?_⟩
    have srca4 := (Fa3.ea.ext ena4).src srcM
    have sca4 := scM.xn (Fa3.ea.ext ena4).xn srca4
    refine ⟨_, rfl, _, rfl, _, rfl, _, rfl, ?_⟩
    refine fun x dx nx ndx _ => ?_
    have eX : Ex Ga4 (upd (upd Ga4 dx (.own x)) x (.ins T.C_Record dx [])) := fun c o z => by
      rw [upd_ne (ne_of_none z nx), upd_ne (ne_of_none z ndx)]
      exact z
    refine ⟨x, dx, _, _, _, _, Ga4, rfl, upd_same, nx, eX, sca4.rec5 fun Ra4 ra4 ea4 two => ?_⟩
    clear eX nx ndx
    have hla4 := ea4 _ _ (ena4 _ _ Fa3.h (fun _ z => nomatch z))
    refine ⟨fla, _, _, rfl, rfl, hla4, (by show 4 < sizeLine; decide), ?_⟩
    have Fa4 : Fd fla M6 (upd Ra4 fla (.lst [V.ref ra0, V.ref ra1, V.ref ra2, V.ref ra3, V.ref ra4])) [V.ref ra0, V.ref ra1, V.ref ra2, V.ref ra3, V.ref ra4] ([.tuple [.str "table", .none], .tuple [.str "targets", .int i], .tuple [.str "seat", .str dB.shown], .tuple [.str "moves", .int j], .tuple [.str "moves", .int (-1)]] : List PyData) := Fa3.step ena4 ea4 (PdO.int two (sk_of _))
    have tbsa4 := tabs_updl (ys := [V.ref ra0, V.ref ra1, V.ref ra2, V.ref ra3, V.ref ra4]) hla4 (tba4.ext ea4)
    clear srca4 sca4 ena4 tba4 ea4 hla4 Fa3 tbsa3 two
    show tSeq _ _ _ [_, _, _, _, _, _, _, _, _, _, _, _, _, _, _] (upd Ra4 fla (.lst [V.ref ra0, V.ref ra1, V.ref ra2, V.ref ra3, V.ref ra4]))
    generalize upd Ra4 fla (.lst [V.ref ra0, V.ref ra1, V.ref ra2, V.ref ra3, V.ref ra4]) = Na4 at Fa4 tbsa4 ⊢
    refine ⟨_, rfl, .inl ⟨rfl, _, SqL.of Fa4.h⟩, tbsa4, fun Ga5 ena5 tba5 => ?_⟩
    have srca5 := (Fa4.ea.ext ena5).src srcM
    have sca5 := scM.xn (Fa4.ea.ext ena5).xn srca5
    obtain ⟨gx, gms, hgx, _⟩ := sca5.good
    refine ⟨_, rfl, _, rfl, _, rfl, _, rfl, gl, _, rfl, .inl ⟨SqL.of hgx, ?_⟩⟩
    (intro tq ntq; generalize hGtq : upd _ tq _ = Gq; have eGq := exG hGtq ntq; have htq := atG hGtq; clear hGtq)
    refine fun x dx nx ndx _ => ?_
    have eX : Ex Gq (upd (upd Gq dx (.own x)) x (.ins T.C_Record dx [])) := fun c o z => by
      rw [upd_ne (ne_of_none z nx), upd_ne (ne_of_none z ndx)]
      exact z
    refine ⟨x, dx, _, _, _, _, Gq, rfl, upd_same, nx, eX, sca5.rec6 eGq hgx htq (srca5.mono eGq) fun Ra5 ea5b => ⟨rfl, ?_⟩⟩
    have ea5 := ext eGq ea5b
    clear eX nx ndx hgx htq eGq ntq
    have hla5 := ea5 _ _ (ena5 _ _ Fa4.h (fun _ z => nomatch z))
    refine ⟨fla, _, _, rfl, rfl, hla5, (by show 5 < sizeLine; decide), ?_⟩
    have Fa5 : Fd fla M6 (upd Ra5 fla (.lst [V.ref ra0, V.ref ra1, V.ref ra2, V.ref ra3, V.ref ra4, V.non])) [V.ref ra0, V.ref ra1, V.ref ra2, V.ref ra3, V.ref ra4, V.non] ([.tuple [.str "table", .none], .tuple [.str "targets", .int i], .tuple [.str "seat", .str dB.shown], .tuple [.str "moves", .int j], .tuple [.str "moves", .int (-1)], .none] : List PyData) := Fa4.step ena5 ea5 (.inl ⟨rfl, rfl⟩)
    have tbsa5 := tabs_updl (ys := [V.ref ra0, V.ref ra1, V.ref ra2, V.ref ra3, V.ref ra4, V.non]) hla5 (tba5.ext ea5)
    clear srca5 sca5 ena5 tba5 ea5 hla5 Fa4 tbsa4
    show tSeq _ _ _ [_, _, _, _, _, _, _, _, _, _, _, _, _, _, _] (upd Ra5 fla (.lst [V.ref ra0, V.ref ra1, V.ref ra2, V.ref ra3, V.ref ra4, V.non]))
    generalize upd Ra5 fla (.lst [V.ref ra0, V.ref ra1, V.ref ra2, V.ref ra3, V.ref ra4, V.non]) = Na5 at Fa5 tbsa5 ⊢
    have hdu5 := (Fa5.ea du _ (by intro _ q; cases q) hdu).1
    have src5 := Fa5.ea.src srcM
    have X5 : XN s M6 Na5 := Fa5.ea.xn
    have p15 := p1.xn srcM X5
    have p25 := p2.xn srcM X5
    have p35 := p3.xn srcM X5
    have p45 := p4.xn srcM X5
    have p55 := p5.xn srcM X5
    have sc5 := scM.xn X5 src5
    refine ⟨_, rfl, _, rfl, pdO_ne Fa5.h hdu5 Fa5.ps (.cons p15 (.cons p25 (.cons p35 (.cons p45 (.cons p55 (.cons (.inl ⟨rfl, rfl⟩) .nil)))))) ⟨_, rfl, itf rfl ?_⟩⟩
    dsimp only [tNext]
    clear p1 p2 p3 p4 p5 scM hdu p25
    refine ⟨tbsa5, fun Gb0 enb0 tbb0 => ?_⟩
    have srcb0 := src5.en enb0
    have scb0 := sc5.xn (XN.en enb0) srcb0
    refine ⟨_, rfl, _, rfl, _, rfl, _, _, _, rfl, scb0.wit1 noT fun Rb0 rb0 eb0 two => ?_⟩
    refine ⟨slen rfl, ?_⟩
    (intro flb nflb; generalize hGflb : upd _ flb _ = Nb0; have eNb0 := exG hGflb nflb; have hflb := atG hGflb; clear hGflb)
    have Fb0 : Fd flb Na5 Nb0 [V.ref rb0] ([.tuple [.str "table", .none]] : List PyData) := ⟨EA.start (LamX.ExtN.trans enb0 (LamX.ExtN.of eb0)) nflb eNb0, hflb, .cons ((PdO.none two (sk_of _)).mono eNb0) .nil⟩
    have tbsb0 := (tbb0.ext eb0).ext eNb0
    clear srcb0 scb0 enb0 tbb0 eb0 two eNb0 hflb nflb
    dsimp only [gName]
    show tSeq _ _ _ [_, _, _, _, _, _, _, _, _, _, _, _, _, _, _] _
    refine ⟨_, rfl, .inl ⟨rfl, _, SqL.of Fb0.h⟩, tbsb0, fun Gb1 enb1 tbb1 => ?_⟩
    have srcb1 := (Fb0.ea.ext enb1).src src5
    have scb1 := sc5.xn (Fb0.ea.ext enb1).xn srcb1
    refine ⟨_, rfl, _, rfl, _, rfl, _, _, _, rfl, scb1.wit2 fun Rb1 rb1 eb1 two => ?_⟩
    have hlb1 := eb1 _ _ (enb1 _ _ Fb0.h (fun _ z => nomatch z))
    refine ⟨flb, _, _, rfl, rfl, hlb1, (by show 1 < sizeLine; decide), ?_⟩
    have Fb1 : Fd flb Na5 (upd Rb1 flb (.lst [V.ref rb0, V.ref rb1])) [V.ref rb0, V.ref rb1] ([.tuple [.str "table", .none], .tuple [.str "seat", .str dB.shown]] : List PyData) := Fb0.step enb1 eb1 (PdO.two two (sk_of _) bads.sh.2)
    have tbsb1 := tabs_updl (ys := [V.ref rb0, V.ref rb1]) hlb1 (tbb1.ext eb1)
    clear srcb1 scb1 enb1 tbb1 eb1 hlb1 Fb0 tbsb0 two
    show tSeq _ _ _ [_, _, _, _, _, _, _, _, _, _, _, _, _, _, _] (upd Rb1 flb (.lst [V.ref rb0, V.ref rb1]))
    generalize upd Rb1 flb (.lst [V.ref rb0, V.ref rb1]) = Nb1 at Fb1 tbsb1 ⊢
    refine ⟨_, rfl, .inl ⟨rfl, _, SqL.of Fb1.h⟩, tbsb1, fun Gb2 enb2 tbb2 => ?_⟩
    have srcb2 := (Fb1.ea.ext enb2).src src5
    have scb2 := sc5.xn (Fb1.ea.ext enb2).xn srcb2
    refine ⟨_, rfl, _, rfl, _, rfl, _, _, _, rfl, scb2.wit3 fun Rb2 rb2 eb2 two => ?_⟩
    have hlb2 := eb2 _ _ (enb2 _ _ Fb1.h (fun _ z => nomatch z))
    refine ⟨flb, _, _, rfl, rfl, hlb2, (by show 2 < sizeLine; decide), ?_⟩
    have Fb2 : Fd flb Na5 (upd Rb2 flb (.lst [V.ref rb0, V.ref rb1, V.ref rb2])) [V.ref rb0, V.ref rb1, V.ref rb2] ([.tuple [.str "table", .none], .tuple [.str "seat", .str dB.shown], .tuple [.str "moves", .int j]] : List PyData) := Fb1.step enb2 eb2 (PdO.int two (sk_of _))
    have tbsb2 := tabs_updl (ys := [V.ref rb0, V.ref rb1, V.ref rb2]) hlb2 (tbb2.ext eb2)
    clear srcb2 scb2 enb2 tbb2 eb2 hlb2 Fb1 tbsb1 two
    show tSeq _ _ _ [_, _, _, _, _, _, _, _, _, _, _, _, _, _, _] (upd Rb2 flb (.lst [V.ref rb0, V.ref rb1, V.ref rb2]))
    generalize upd Rb2 flb (.lst [V.ref rb0, V.ref rb1, V.ref rb2]) = Nb2 at Fb2 tbsb2 ⊢
    refine ⟨_, rfl, .inl ⟨rfl, _, SqL.of Fb2.h⟩, tbsb2, fun Gb3 enb3 tbb3 => ?_⟩
    have srcb3 := (Fb2.ea.ext enb3).src src5
    have scb3 := sc5.xn (Fb2.ea.ext enb3).xn srcb3
    refine ⟨_, rfl, _, rfl, _, rfl, _, _, _, rfl, scb3.wit4 fun Rb3 rb3 eb3 two => ?_⟩
    have hlb3 := eb3 _ _ (enb3 _ _ Fb2.h (fun _ z => nomatch z))
    refine ⟨flb, _, _, rfl, rfl, hlb3, (by show 3 < sizeLine; decide), ?_⟩
    have Fb3 : Fd flb Na5 (upd Rb3 flb (.lst [V.ref rb0, V.ref rb1, V.ref rb2, V.ref rb3])) [V.ref rb0, V.ref rb1, V.ref rb2, V.ref rb3] ([.tuple [.str "table", .none], .tuple [.str "seat", .str dB.shown], .tuple [.str "moves", .int j], .tuple [.str "moves", .int (-1)]] : List PyData) := Fb2.step enb3 eb3 (PdO.int two (sk_of _))
    have tbsb3 := tabs_updl (ys := [V.ref rb0, V.ref rb1, V.ref rb2, V.ref rb3]) hlb3 (tbb3.ext eb3)
    clear srcb3 scb3 enb3 tbb3 eb3 hlb3 Fb2 tbsb2 two
    dsimp only [List.length_cons, List.length_nil, List.cons_append, List.nil_append]
    generalize upd Rb3 flb (.lst [V.ref rb0, V.ref rb1, V.ref rb2, V.ref rb3]) = Nb3 at Fb3 tbsb3 ⊢
    have hdu3 := (Fb3.ea du _ (by intro _ q; cases q) hdu5).1
    refine ⟨_, rfl, _, rfl, du, _, _, _, rfl, rfl, SqL.of hdu3, (L2.atI_nat (j := 0) rfl), _, rfl, du, _, _, _, rfl, rfl, SqL.of hdu3, (L2.atI_nat (j := 2) rfl), _, rfl, du, _, _, _, rfl, rfl, SqL.of hdu3, (L2.atI_nat (j := 3) rfl), _, rfl, du, _, _, _, rfl, rfl, SqL.of hdu3, (L2.atI_nat (j := 4) rfl), slen rfl, ?_⟩
    (intro ql nql; generalize hGql : upd _ ql _ = Z1; have eZ1 := exG hGql nql; have hql := atG hGql; clear hGql)
    have X3 : XN s Na5 Nb3 := Fb3.ea.xn
    have src3 := Fb3.ea.src src5
    refine pdO_eq (eZ1 _ _ Fb3.h) hql (paired_mono (fun v a q => PdO.mono eZ1 q) Fb3.ps) (.cons ((p15.xn src5 X3).mono eZ1) (.cons ((p35.xn src5 X3).mono eZ1) (.cons ((p45.xn src5 X3).mono eZ1) (.cons ((p55.xn src5 X3).mono eZ1) .nil)))) ?_
    exact k _ (XM.trans (X5.trans (X3.trans (XN.of eZ1)))) (src3.mono eZ1) (tbsb3.ext eZ1)
end

theorem RecAt.xn {CR C s : Addr} {H H2 : Hp} {a : Addr} {ns st : List Int} {tss : List (List Int)} {ms : List (List Int × Bool)} (src : Src H s) (x : XN s H H2) (h : RecAt CR C H a ns st tss ms) : RecAt CR C H2 a ns st tss ms := by
  obtain ⟨dx, tb, g, p, v, gs, ps, vs, h1, h2, h3, h4, h5, h6, h7, h8⟩ := h
  refine ⟨dx, tb, g, p, v, gs, ps, vs, x _ _ (fun z => ?_) (fun _ z => nomatch z) h1, x.tab src h2, x.tup src h3, h4.monoT fun _ _ z => x.tup src z, x.tup src h5, h6.xn src x, x.tup src h7, h8.monoT fun _ _ z => x.tup src z⟩
  obtain ⟨_, _, _, e⟩ := src
  rw [z, e] at h1
  cases h1
/-! ### what the asks at a large table are handed -/
structure Lg (s CR C : Addr) (H : Hp) (ns p : List Int) (ms : List (List Int × Bool)) (tb st gl gm : Addr) : Prop where
  src : Src H s
  tab : TabAt C H tb ns
  ok : SzOk ns
  start : H st = some (.tup (p.map V.int))
  skp : SeatOk ns p
  good : ∃ xs, H gl = some (.lst xs) ∧ MovR H xs ms
  cl : ∀ m ∈ ms, m.1.length = ns.length
  gs : gl ≠ s
  rc : ∃ tss, RecAt CR C H gm ns p tss ms
theorem Lg.xn {s CR C : Addr} {H H2 : Hp} {ns p : List Int} {ms : List (List Int × Bool)} {tb st gl gm : Addr} (x : XN s H H2) (src2 : Src H2 s) (h : Lg s CR C H ns p ms tb st gl gm) : Lg s CR C H2 ns p ms tb st gl gm := by
  obtain ⟨src, tab, ok, start, skp, ⟨xs, m1, m2⟩, cl, gs, ⟨tss, rc⟩⟩ := h
  exact ⟨src2, x.tab src tab, ok, x.tup src start, skp, ⟨xs, x.lst gs m1, m2.xn src x⟩, cl, gs, ⟨tss, rc.xn src x⟩⟩
section
variable {K : PySem.W.Frag} {s CR C CT CG CS CM CL : Addr} {H : Hp} {ns p : List Int} {ms : List (List Int × Bool)} {tb st gl gm : Addr} {Q : VK}
variable (h : Lg s CR C H ns p ms tb st gl gm)
include h
theorem Lg.wit (big : Big ns) (k : ∀ G r, Ex H G → TwoS G r "large" (.int 300) → Q (.ref r) G) : WitX K C CT CS CM CL (ErrR K CT CG CS CM CL Q) H (.ref tb) (.ref st) (.ref gl) := by
  obtain ⟨xs, m1, m2⟩ := h.good
  refine .inr ⟨tb, ns, rfl, h.tab, h.ok, _, TupA.ints h.start (by have := h.skp.len; have := h.ok.le; omega), .inr ⟨isSeat_ok h.skp, (· ≠ s), some (ms.map iM), ⟨(false, gl), xs, rfl, m1, m2.dq⟩, fun ds q => ?_, .inr ⟨?_, big, rai_large k⟩⟩⟩
  · obtain rfl := Option.some.inj q
    intro d hd
    obtain ⟨m, hm, rfl⟩ := List.mem_map.mp hd
    exact short_mov h.ok.le (h.cl m hm)
  · show goM ns (ms.map iM) 0 = none
    have := goM_app (ds := []) (i := 0) h.cl
    rw [List.append_nil] at this
    exact this
theorem Lg.witM {br : Addr} {ys : List V} {dM : PyData} (hb : H br = some (.lst ys)) (hy : DqAll (· ≠ s) H ys (ms.map iM ++ [dM])) (bM : BadM ns dM) (k : ∀ G r, Ex H G → TwoS G r "moves" (.int ms.length) → Q (.ref r) G) : WitX K C CT CS CM CL (ErrR K CT CG CS CM CL Q) H (.ref tb) (.ref st) (.ref br) := by
  refine .inr ⟨tb, ns, rfl, h.tab, h.ok, _, TupA.ints h.start (by have := h.skp.len; have := h.ok.le; omega), .inr ⟨isSeat_ok h.skp, (· ≠ s), some (ms.map iM ++ [dM]), ⟨(false, br), ys, rfl, hb, hy⟩, fun ds q => ?_, .inl ⟨(ms.length : Nat), ?_, rai_mov k⟩⟩⟩
  · obtain rfl := Option.some.inj q
    intro d hd
    rcases List.mem_append.mp hd with hd | hd
    · obtain ⟨m, hm, rfl⟩ := List.mem_map.mp hd
      exact short_mov h.ok.le (h.cl m hm)
    · rw [List.mem_singleton.mp hd]
      exact bM.short
  · show goM ns (ms.map iM ++ [dM]) 0 = _
    rw [goM_app h.cl, goM_stop bM.no, Nat.zero_add]
theorem Lg.game (big : Big ns) (k : ∀ G r, Ex H G → TwoS G r "large" (.int 300) → Q (.ref r) G) : spX_Record_losses CR C CL [.ref gm] H Q (ErrR K CT CG CS CM CL Q) := by
  obtain ⟨tss, rc⟩ := h.rc
  exact ⟨gm, ns, p, tss, ms, rfl, rc, big, rai_large k⟩
end
section
variable {P : Program} {w : World} {K : PySem.W.Frag} {mg : Str → Option Value} {base : Heap}
def sp_law_large_right (TT : List (Addr × Str)) : Sp := fun vs H Q _ => ∃ (s l : Addr) (ns : List Int), vs = [.ref s, .ref l] ∧ Src H s ∧ H l = some (.tup (ns.map V.int)) ∧ SzOk ns ∧ (∀ n ∈ ns, n ≤ 10 ^ 30) ∧ Big ns ∧ LamX.Tabs TT H ∧ ∀ H2, XN s H H2 → Src H2 s → LamX.Tabs TT H2 → Q (.bl true) H2
theorem ok_law_large_right (T : TX K mg) (L : TL T base) : CG.FnOkG P w K mg base 12 T.f_law_large_right T.fd_law_large_right ["_law_source_here", "_law_rings_here"] (sp_law_large_right L.tabs) := by
  refine CG.okGT T.F_law_large_right L.at_law_large_right sc_law_large_right (fun vs H Q E h => ?_) (fun A outer s0 H0 vs Q E gd hr h => ?_)
  · obtain ⟨s, l, ns, rfl, _⟩ := h
    rfl
  · obtain ⟨s, l, ns, rfl, src, hl, ok, le, big, tabs, k⟩ := h
    refine ⟨_, (pss_cons (ps_asg (pe_tup (pa_cons (pe_make T.M_Table (ok_Table_init T) (hr.mono (by decide)) rfl T.m_Table T.b_Table_init .nil pass0 (pa_cons (pv 1) pa_nil)) (pa_cons (pe_call (ok_law_seats T) (hr.mono (by decide)) rfl T.m_law_seats T.F_law_seats.kp T.b_law_seats .nil pass0 (pa_cons (pv 0) (pa_cons (pv 1) (pa_cons pe_int pa_nil)))) pa_nil))) (pg_tup rfl (pgs_cons (pg_name (i := 2) sc_law_large_right.nd rfl (Or.inr rfl)) (pgs_cons (pg_name (i := 3) sc_law_large_right.nd rfl (Or.inl rfl)) pgs_nil)))) (pss_cons (ps_asg (pe_tup (pa_cons (pe_call (ok_law_seat T) (hr.mono (by decide)) rfl T.m_law_seat T.F_law_seat.kp T.b_law_seat .nil pass0 (pa_cons (pv 0) (pa_cons (pv 1) pa_nil))) (pa_cons (pe_call (ok_law_moves T) (hr.mono (by decide)) rfl T.m_law_moves T.F_law_moves.kp T.b_law_moves .nil pass0 (pa_cons (pv 0) (pa_cons (pv 1) (pa_cons pe_int pa_nil)))) pa_nil))) (pg_tup rfl (pgs_cons (pg_name (i := 4) sc_law_large_right.nd rfl (Or.inr rfl)) (pgs_cons (pg_name (i := 5) sc_law_large_right.nd rfl (Or.inr rfl)) pgs_nil)))) (pss_cons (ps_set (i := 6) sc_law_large_right.nd rfl (Or.inr rfl) (pe_make T.M_Record (ok_Record_init T) (hr.mono (by decide)) rfl T.m_Record T.b_Record_init .nil pass0 (pa_cons (pv 2) (pa_cons (pv 3) (pa_cons (pv 4) (pa_cons (pv 5) pa_nil)))))) (pss_cons (ps_set (i := 7) sc_law_large_right.nd rfl (Or.inl rfl) (pe_lst (pa_cons (CG.pe_said1T T.F_law_raised T.b_law_raised sc_law_raised rfl T.m_law_raised rfl (by exact Or.inl rfl) (gives_law_raised T L 9) gd hr L.tb_law_large_right rfl (by exact L.hm_law_large_right) (by exact L.one_law_large_right) (fun A outer s H E f c hr => (pe_meth0 (pv 6) T.cl_Record T.me_Record_losses (okX_Record_losses T) (hr.mono (by decide)) T.b_Record_losses .nil (passes_call (takes_of rfl rfl rfl rfl) (fun _ _ _ _ h => h)))) (show LamX.LamS (defScope s_law_large_right) _ from LamX.lamS_by (by decide +kernel))) pa_nil))) (pss_cons (ps_expr (pe_bm PySem.F.plainAttrs_list PySem.F.slot_list_append PySem.F.type_list_append mt_append (pv 7) (pa_cons (CG.pe_said1T T.F_law_raised T.b_law_raised sc_law_raised rfl T.m_law_raised rfl (by exact Or.inl rfl) (gives_law_raised T L 9) gd hr L.tb_law_large_right rfl (by exact L.hm_law_large_right) (by exact L.one_law_large_right) (fun A outer s H E f c hr => (pe_call (okX_consistent_witnesses T) (hr.mono (by decide)) rfl T.m_consistent_witnesses T.F_consistent_witnesses.kp T.b_consistent_witnesses .nil (passes_call (takes_of rfl rfl rfl rfl) (fun _ _ _ _ h => h)) (pa_cons (pv 2) (pa_cons (pv 4) (pa_cons (pv 5) pa_nil))))) (show LamX.LamS (defScope s_law_large_right) _ from LamX.lamS_by (by decide +kernel))) pa_nil))) (pss_cons (ps_expr (pe_bm PySem.F.plainAttrs_list PySem.F.slot_list_append PySem.F.type_list_append mt_append (pv 7) (pa_cons (CG.pe_said1T T.F_law_raised T.b_law_raised sc_law_raised rfl T.m_law_raised rfl (by exact Or.inl rfl) (gives_law_raised T L 9) gd hr L.tb_law_large_right rfl (by exact L.hm_law_large_right) (by exact L.one_law_large_right) (fun A outer s H E f c hr => (pe_meth0 (pv 6) T.cl_Record T.me_Record_first_mistake (okX_Record_first_mistake T) (hr.mono (by decide)) T.b_Record_first_mistake .nil (passes_call (takes_of rfl rfl rfl rfl) (fun _ _ _ _ h => h)))) (show LamX.LamS (defScope s_law_large_right) _ from LamX.lamS_by (by decide +kernel))) pa_nil))) (pss_cons (ps_if (PW.pt (pw_or (pt_cmpR (r := rNeD K) (op_neD hr.units) (pv 7) (pe_op op_rep (pe_lst (pa_cons (pe_tup (pa_cons pe_str (pa_cons pe_int pa_nil))) pa_nil)) pe_int) (nomark _)) (pw_or1 (pt_cmpR op_ne (pe_callB call_len_seq (by rfl) T.z_len (by decide +kernel) (pa_cons (pe_meth0 (pv 6) T.cl_Record T.me_Record_seats (ok_Record_seats T) (hr.mono (by decide)) T.b_Record_seats .nil pass0) pa_nil)) (pe_op op_add (pe_callB call_len_seq (by rfl) T.z_len (by decide +kernel) (pa_cons (pv 5) pa_nil)) pe_int) (nomark _))))) (pss_one (ps_ret pe_bl)) pss_nil) (pss_cons (ps_set (i := 8) sc_law_large_right.nd rfl (Or.inr rfl) (pe_op (r := rCatR K) op_catR (pv 5) (pe_lst (pa_cons (pe_call (ok_law_bad_move T) (hr.mono (by decide)) rfl T.m_law_bad_move T.F_law_bad_move.kp T.b_law_bad_move .nil pass0 (pa_cons (pv 0) (pa_cons (pv 1) pa_nil))) pa_nil)))) (pss_one (ps_ret (pe_cmpR (r := rEqD K) (op_eqD hr.units) (CG.pe_said1T T.F_law_raised T.b_law_raised sc_law_raised rfl T.m_law_raised rfl (by exact Or.inl rfl) (gives_law_raised T L 9) gd hr L.tb_law_large_right rfl (by exact L.hm_law_large_right) (by exact L.one_law_large_right) (fun A outer s H E f c hr => (pe_call (okX_consistent_witnesses T) (hr.mono (by decide)) rfl T.m_consistent_witnesses T.F_consistent_witnesses.kp T.b_consistent_witnesses .nil (passes_call (takes_of rfl rfl rfl rfl) (fun _ _ _ _ h => h)) (pa_cons (pv 2) (pa_cons (pv 4) (pa_cons (pv 8) pa_nil))))) (show LamX.LamS (defScope s_law_large_right) _ from LamX.lamS_by (by decide +kernel))) (pe_tup (pa_cons pe_str (pa_cons (pe_callB call_len_seq (by rfl) T.z_len (by decide +kernel) (pa_cons (pv 5) pa_nil)) pa_nil))) (nomark _)))))))))))), ?_⟩
    have l4 := ok.le
    refine ⟨_, rfl, ?_⟩
    refine mk_tab (b := true) (show SqH H0 (true, l) _ from hl) ok fun tb H1 e1 ntb tab => ?_
    have hl1 := e1 _ _ hl
    have src1 := src.mono e1
    refine ⟨_, rfl, _, rfl, s, l, ns, 3, rfl, src1, hl1, ok, le, by decide, by decide, fun f tss H2 nf ra ne lt sks nod xb2 src2 => ⟨slen rfl, ?_⟩⟩
    have nfs := src1.ne nf
    (intro q1 nq1; generalize hGq1 : upd _ q1 _ = H3; have eH3 := exG hGq1 nq1; have hq1 := atG hGq1; clear hGq1)
    refine ⟨q1, _, rfl, SqT.of hq1, rfl, _, _, rfl, _, _, rfl, rfl, ?_⟩
    have X3 : XN s H0 H3 := (XN.of e1).trans ((XN.xb xb2).trans (XN.of eH3))
    have tab3 := ((XN.xb xb2).trans (XN.of eH3)).tab src1 tab
    have ra3 := ra.mono eH3
    have src3 := src2.mono eH3
    have hl3 := X3.tup src hl
    have tabs3 := (Tabs.xb (tabs.ext e1) src1 xb2).ext eH3
    clear hq1 eH3 xb2 e1 ra src2 src1 hl1 tab tabs nq1
    dsimp only [gName]
    show tSeq _ _ _ [_, _, _, _, _, _, _, _, _] _
    refine ⟨_, rfl, _, rfl, s, l, ns, rfl, src3, hl3, ok, le, fun st p H4 nst hst skp xb4 src4 => ?_⟩
    have hl4 := tup_xb src3 hl3 xb4
    refine ⟨_, rfl, _, rfl, s, l, ns, 5, rfl, src4, hl4, ok, le, by decide, by decide, fun gl ms H5 ngl good5 lm cl xb5 src5 => ⟨slen rfl, ?_⟩⟩
    obtain ⟨xs, hgl5, mr5⟩ := good5
    have ngls := src4.ne ngl
    (intro q2 nq2; generalize hGq2 : upd _ q2 _ = H6; have eH6 := exG hGq2 nq2; have hq2 := atG hGq2; clear hGq2)
    refine ⟨q2, _, rfl, SqT.of hq2, rfl, _, _, rfl, _, _, rfl, rfl, ?_⟩
    have xb36 : XB s H3 H6 := xb4.trans (xb5.trans (XB.of eH6))
    have X6 := X3.trans (XN.xb xb36)
    have tab6 := (XN.xb xb36).tab src3 tab3
    have ra6 := (XN.xb xb36).rows src3 nfs ra3
    have src6 := src5.mono eH6
    have hl6 := tup_xb src3 hl3 xb36
    have tabs6 := Tabs.xb tabs3 src3 xb36
    have hst6 := eH6 _ _ (tup_xb src4 hst xb5)
    have hgl6 := eH6 _ _ hgl5
    have mr6 := mr5.mono eH6
    clear hq2 eH6 xb5 xb4 xb36 hl4 hl3 src5 src4 mr5 hgl5 hst nst ngl tabs3 ra3 tab3 X3 src3 nf nq2
    dsimp only [gName]
    show tSeq _ _ _ [_, _, _, _, _, _, _, _, _] _
    have lm5 : ms.length ≤ 5 := lm
    refine ⟨_, rfl, _, rfl, _, rfl, _, rfl, ?_⟩
    refine mk_rec (bq := false) (bm := false) tab6 ok ra6 ne (by have : tss.length ≤ 3 := lt; omega) sks nod hst6 skp (show MovQ H6 (false, gl) ms from ⟨xs, hgl6, mr6⟩) (by omega) cl fun gm M6 e6 _ rc => ?_
    have srcM := src6.mono e6
    have lgM : Lg s T.C_Record T.C_Table M6 ns p ms tb st gl gm := ⟨srcM, tab6.mono e6, ok, e6 _ _ hst6, skp, ⟨xs, e6 _ _ hgl6, mr6.mono e6⟩, cl, ngls, ⟨tss, rc⟩⟩
    have tabsM := tabs6.ext e6
    have XM := X6.trans (XN.of e6)
    have hlM := e6 _ _ hl6
    clear rc e6 hgl6 hst6 mr6 ra6 tab6 X6 hl6 src6 tabs6
    dsimp only [gName]
    show tSeq _ _ _ [_, _, _, _, _, _, _, _, _] _
    refine ⟨tabsM, fun Ga0 ena0 tba0 => ?_⟩
    have srca0 := srcM.en ena0
    have lga0 := lgM.xn (XN.en ena0) srca0
    obtain ⟨tsa, dxa, tba, ga, pa, va, gsa, psa, vsa, rca, rcb⟩ := lga0.rc
    refine ⟨_, rfl, gm, dxa, _, rfl, rca, rfl, lga0.game big fun Ra0 ra0 ea0 two => ⟨slen rfl, ?_⟩⟩
    (intro fl nfl; generalize hGfl : upd _ fl _ = N0; have eN0 := exG hGfl nfl; have hfl := atG hGfl; clear hGfl)
    have F0 : Fd fl M6 N0 [V.ref ra0] ([.tuple [.str "large", .int 300]] : List PyData) := ⟨EA.start (LamX.ExtN.trans ena0 (LamX.ExtN.of ea0)) nfl eN0, hfl, .cons ((PdO.int two (sk_of _)).mono eN0) .nil⟩
    have tbs0 := (tba0.ext ea0).ext eN0
    clear rca rcb srca0 lga0 ena0 tba0 ea0 two eN0 hfl nfl
    dsimp only [gName]
    show tSeq _ _ _ [_, _, _, _, _, _, _, _, _] _
    refine ⟨_, rfl, .inl ⟨rfl, _, SqL.of F0.h⟩, tbs0, fun Ga1 ena1 tba1 => ?_⟩
    have srca1 := (F0.ea.ext ena1).src srcM
    have lga1 := lgM.xn (F0.ea.ext ena1).xn srca1
    refine ⟨_, rfl, _, rfl, _, rfl, _, _, _, rfl, lga1.wit big fun Ra1 ra1 ea1 two => ?_⟩
    have hla1 := ea1 _ _ (ena1 _ _ F0.h (fun _ z => nomatch z))
    refine ⟨fl, _, _, rfl, rfl, hla1, (by show 1 < sizeLine; decide), ?_⟩
    have F1 : Fd fl M6 (upd Ra1 fl (.lst [V.ref ra0, .ref ra1])) [V.ref ra0, .ref ra1] ([.tuple [.str "large", .int 300], .tuple [.str "large", .int 300]] : List PyData) := F0.step ena1 ea1 (PdO.int two (sk_of _))
    have tbs1 := tabs_updl (ys := [V.ref ra0, .ref ra1]) hla1 (tba1.ext ea1)
    clear srca1 lga1 ena1 tba1 ea1 hla1 F0 tbs0 two
    show tSeq _ _ _ [_, _, _, _, _, _, _, _, _] (upd Ra1 fl (.lst [V.ref ra0, .ref ra1]))
    generalize upd Ra1 fl (.lst [V.ref ra0, .ref ra1]) = N1 at F1 tbs1 ⊢
    refine ⟨_, rfl, .inl ⟨rfl, _, SqL.of F1.h⟩, tbs1, fun Ga2 ena2 tba2 => ?_⟩
    have srca2 := (F1.ea.ext ena2).src srcM
    have lga2 := lgM.xn (F1.ea.ext ena2).xn srca2
    obtain ⟨tsa, dxa, tba, ga, pa, va, gsa, psa, vsa, rca, rcb⟩ := lga2.rc
    refine ⟨_, rfl, gm, dxa, _, rfl, rca, rfl, lga2.game big fun Ra2 ra2 ea2 two => ?_⟩
    have hla2 := ea2 _ _ (ena2 _ _ F1.h (fun _ z => nomatch z))
    refine ⟨fl, _, _, rfl, rfl, hla2, (by show 2 < sizeLine; decide), ?_⟩
    have F2 : Fd fl M6 (upd Ra2 fl (.lst [V.ref ra0, .ref ra1, .ref ra2])) [V.ref ra0, .ref ra1, .ref ra2] ([.tuple [.str "large", .int 300], .tuple [.str "large", .int 300], .tuple [.str "large", .int 300]] : List PyData) := F1.step ena2 ea2 (PdO.int two (sk_of _))
    have tbs2 := tabs_updl (ys := [V.ref ra0, .ref ra1, .ref ra2]) hla2 (tba2.ext ea2)
    clear rca rcb srca2 lga2 ena2 tba2 ea2 hla2 F1 tbs1 two
    show tSeq _ _ _ [_, _, _, _, _, _, _, _, _] (upd Ra2 fl (.lst [V.ref ra0, .ref ra1, .ref ra2]))
    generalize upd Ra2 fl (.lst [V.ref ra0, .ref ra1, .ref ra2]) = N2 at F2 tbs2 ⊢
    refine ⟨_, rfl, slen rfl, ?_⟩
    (intro t1 nt1; generalize hGt1 : upd _ t1 _ = N3; have eN3 := exG hGt1 nt1; have ht1 := atG hGt1; clear hGt1)
    refine ⟨slen rfl, ?_⟩
    (intro t2 nt2; generalize hGt2 : upd _ t2 _ = N4; have eN4 := exG hGt2 nt2; have ht2 := atG hGt2; clear hGt2)
    refine ⟨t2, 3, _, rfl, rfl, ht2, by decide, by decide, (by show 1 * 3 ≤ _; decide), ?_⟩
    (intro t3 nt3; generalize hGt3 : upd _ t3 _ = N5; have eN5 := exG hGt3 nt3; have ht3 := atG hGt3; clear hGt3)
    replace ht3 : N5 t3 = some (.lst [V.ref t1, .ref t1, .ref t1]) := ht3
    have e25 := ext eN3 (ext eN4 eN5)
    have one : PdO N5 (.ref t1) (.tuple [.str "large", .int 300]) := PdO.int ((ext eN4 eN5) _ _ ht1) (sk_of _)
    have src2 := F2.ea.src srcM
    have lg2 := lgM.xn F2.ea.xn src2
    have lg5 := lg2.xn (XN.of e25) (src2.mono e25)
    have X5 : XN s H0 N5 := XM.trans (F2.ea.xn.trans (XN.of e25))
    have hl5 := e25 _ _ (F2.ea.xn.tup srcM hlM)
    have tbs5 := tbs2.ext e25
    refine pdO_ne (e25 _ _ F2.h) ht3 (paired_mono (fun v a q => PdO.mono e25 q) F2.ps) (.cons one (.cons one (.cons one .nil))) ⟨_, rfl, iteF ?_⟩
    clear one e25 ht3 ht2 ht1 eN5 eN4 eN3 lg2 src2 F2 tbs2 lgM srcM XM tabsM hlM
    obtain ⟨tsa, rca⟩ := lg5.rc
    obtain ⟨dxa, tba, ga, pa, va, gsa, psa, vsa, rcb, rcc⟩ := id rca
    obtain ⟨zs, g1, g2⟩ := lg5.good
    refine ⟨_, rfl, gm, dxa, _, rfl, rcb, rfl, gm, ns, p, tsa, ms, rfl, rca, fun f2 N6 e6 nf2 ra2 => ?_⟩
    obtain ⟨ws, w1, w2⟩ := ra2
    refine ⟨f2, _, rfl, .inl (SqL.of w1), _, rfl, gl, _, rfl, .inl (SqL.of (e6 _ _ g1)), _, _, rfl, rfl, rfl, _, rfl, itf ?_ ?_⟩
    · rw [dec_int, w2.len, walk_len, g2.len]
      simp
    dsimp only [tNext]
    clear w1 w2 ws rcc rcb rca nf2
    have lg6 := lg5.xn (XN.of e6) (lg5.src.mono e6)
    have X6 := X5.trans (XN.of e6)
    have hl6 := e6 _ _ hl5
    have tbs6 := tbs5.ext e6
    have hg6 := e6 _ _ g1
    have mr6 := g2.mono e6
    clear lg5 X5 hl5 tbs5 e6 g1 g2
    refine ⟨_, rfl, _, rfl, _, rfl, s, l, ns, rfl, lg6.src, hl6, ok, le, fun vM dM N7 qM bM xb7 src7 => ⟨slen rfl, ?_⟩⟩
    (intro m1 nm1; generalize hGm1 : upd _ m1 _ = N8; have eN8 := exG hGm1 nm1; have hm1 := atG hGm1; clear hGm1)
    have hg7 := xb7 _ _ ngls hg6
    refine ⟨gl, m1, _, _, rfl, rfl, SqL.of (eN8 _ _ hg7), SqL.of hm1, (by rw [mr6.len]; exact Nat.le_trans (show ms.length + 1 ≤ 8 by omega) (by decide)), ?_⟩
    (intro br nbr; generalize hGbr : upd _ br _ = N9; have eN9 := exG hGbr nbr; have hbr := atG hGbr; clear hGbr)
    have X69 : XN s N6 N9 := (XN.xb xb7).trans (XN.of (ext eN8 eN9))
    have src9 := src7.mono (ext eN8 eN9)
    have lg9 := lg6.xn X69 src9
    have nbrs := (src7.mono eN8).ne nbr
    have hy : DqAll (· ≠ s) N9 (zs ++ [vM]) (ms.map iM ++ [dM]) := DqAll.app ((mr6.xn lg6.src X69).dq) (.cons (qM.mono (ext eN8 eN9)) .nil)
    have X9 := X6.trans X69
    have tbs9 := (Tabs.xb tbs6 lg6.src xb7).ext (ext eN8 eN9)
    clear qM mr6 tbs6 X6 X69 lg6 hg7 hm1 nm1 nbr eN9 eN8 xb7 src7 hl6 hg6
    dsimp only [gName]
    refine ⟨tbs9, fun G en tbG => ?_⟩
    have srcG := src9.en en
    have lgG := lg9.xn (XN.en en) srcG
    refine ⟨_, rfl, _, rfl, _, rfl, _, _, _, rfl, lgG.witM ((XN.en en).lst nbrs hbr) (hy.xn src9 (XN.en en)) bM fun R r e two => ?_⟩
    obtain ⟨us, g1, g2⟩ := lgG.good
    refine ⟨_, rfl, gl, _, rfl, .inl (SqL.of (e _ _ g1)), slen rfl, ?_⟩
    (intro pt npt; generalize hGpt : upd _ pt _ = Z; have eZ := exG hGpt npt; have hpt := atG hGpt; clear hGpt)
    have il : ((us.length : Nat) : Int) = (ms.length : Nat) := by rw [g2.len]
    rw [il] at hpt
    obtain ⟨a1, a2⟩ := pdO_dp (K := K) (PdO.int (eZ _ _ two) (sk_of "moves"))
    obtain ⟨b1, _⟩ := pdO_dp (K := K) (PdO.int (show TwoS Z pt "moves" (.int (ms.length : Nat)) from hpt) (sk_of "moves"))
    have sh : Sh 60 _ := a2.up (by decide)
    refine ⟨_, _, a1, b1, sh.ok, sh.ok, ?_⟩
    rw [eqv_refl _ sh.1]
    exact k _ (X9.trans ((XN.en en).trans (XN.of (ext e eZ)))) (srcG.mono (ext e eZ)) (tbG.ext (ext e eZ))
end

section
variable {P : Program} {w : World} {K : PySem.W.Frag} {mg : Str → Option Value} {base : Heap}
/-- a cut list of ints is one -/
theorem cut_ints (ns : List Int) (lo hi : Option Int) : ∃ ms : List Int, cutV (ns.map V.int ++ [V.int 0]) lo hi = ms.map V.int := by
  refine ⟨((ns ++ [0]).drop (HT.sIx (ns.map V.int ++ [V.int 0]).length 0 lo)).take (HT.sIx (ns.map V.int ++ [V.int 0]).length (ns.map V.int ++ [V.int 0]).length hi - HT.sIx (ns.map V.int ++ [V.int 0]).length 0 lo), ?_⟩
  unfold cutV
  rw [List.map_take, List.map_drop, List.map_append]
  rfl
end
theorem cut_of (ns : List Int) (lo hi : Option Int) : ∃ ms : List Int, cutV (ns.map V.int) lo hi = ms.map V.int ∧ ms.length ≤ ns.length := by
  refine ⟨(ns.drop (HT.sIx (ns.map V.int).length 0 lo)).take (HT.sIx (ns.map V.int).length (ns.map V.int).length hi - HT.sIx (ns.map V.int).length 0 lo), ?_, ?_⟩
  · unfold cutV
    rw [List.map_take, List.map_drop]
  · rw [List.length_take, List.length_drop]
    omega

theorem cnt_of {ns : List Int} (h : (List.range ns.length).all (fun i => decide (-(2 ^ 64) < prodL (ns.take i) ∧ prodL (ns.take i) < 2 ^ 64)) = true) : CntOk ns := fun i n hn => by
  have il := (List.getElem?_eq_some_iff.mp hn).1
  exact mul_ok (.inl (of_decide_eq_true (List.all_eq_true.mp h i (List.mem_range.mpr il))))
theorem wide_of {ns : List Int} (h : ns ∈ [[301], [7, 43], [100000000000000000000], [2, 3, 51], [1000000000, 1000000000, 1, 2]]) : SzOk ns ∧ (∀ n ∈ ns, n ≤ 10 ^ 30) ∧ Big ns := by
  simp only [List.mem_cons, List.not_mem_nil, or_false] at h
  rcases h with rfl | rfl | rfl | rfl | rfl
  · exact ⟨⟨by decide, by decide, by decide⟩, by decide +kernel, cnt_of (by decide +kernel), by decide +kernel⟩
  · exact ⟨⟨by decide, by decide, by decide⟩, by decide +kernel, cnt_of (by decide +kernel), by decide +kernel⟩
  · exact ⟨⟨by decide, by decide, by decide⟩, by decide +kernel, cnt_of (by decide +kernel), by decide +kernel⟩
  · exact ⟨⟨by decide, by decide, by decide⟩, by decide +kernel, cnt_of (by decide +kernel), by decide +kernel⟩
  · exact ⟨⟨by decide, by decide, by decide⟩, by decide +kernel, cnt_of (by decide +kernel), by decide +kernel⟩
section
variable {P : Program} {w : World} {K : PySem.W.Frag} {mg : Str → Option Value} {base : Heap}
def sp_law (K : PySem.W.Frag) (P1 P2 : Addr) : Sp := fun vs H Q _ => ∃ (a : Addr) (ns : List Int), vs = [.ref a] ∧ SqL K H a (ns.map V.int) ∧ ns.length ≤ 63 ∧ H P1 = some (.tbl #[]) ∧ H P2 = some (.tbl #[]) ∧ ∀ H2, Q (.bl true) H2
theorem ok_law (T : TX K mg) (L : TL T base) : CG.FnOkG P w K mg base 13 T.f_law T.fd_law ["_law_script"] (sp_law K L.p_law_right L.p_law_large_right) := by
  refine CG.okG T.F_law sc_law (fun vs H Q E h => ?_) (fun cdv A outer s H vs Q E gd hr h => ?_)
  · obtain ⟨a, ns, rfl, _⟩ := h
    rfl
  · obtain ⟨a, ns, rfl, hS, hlen, ht1, ht2, k⟩ := h
    refine ⟨_, (pss_cons (ps_for PassesOwn.never rfl (pi_list (pe_slice sl_list (pe_op (r := rCatR K) op_catR (pv 0) (pe_lst (pa_cons pe_int pa_nil))) po_none (po_some pe_int))) (pg_name (i := 1) sc_law.nd rfl (Or.inl rfl)) (pss_cons (ps_set (i := 2) sc_law.nd rfl (Or.inl rfl) (pe_call (ok_law_source T) (hr.mono (by decide)) rfl T.m_law_source T.F_law_source.kp T.b_law_source .nil pass0 (pa_cons (pv 1) pa_nil))) (pss_cons (ps_if (pt_not (pt_val (CG.pe_callG (ok_law_right T L) gd hr rfl T.m_law_right T.F_law_right.kp T.b_law_right .nil pass0 (pa_cons (pv 2) (pa_cons (pe_call (ok_law_rings T) (hr.mono (by decide)) rfl T.m_law_rings T.F_law_rings.kp T.b_law_rings .nil pass0 (pa_cons (pv 2) (pa_cons pe_int pa_nil))) pa_nil))))) (pss_one (ps_ret pe_bl)) pss_nil) (pss_cons (ps_set (i := 3) sc_law.nd rfl (Or.inl rfl) (pe_call (ok_law_one T) (hr.mono (by decide)) rfl T.m_law_one T.F_law_one.kp T.b_law_one .nil pass0 (pa_cons (pv 2) (pa_cons (pe_lst (pa_cons (pe_tup (pa_cons pe_int pa_nil)) (pa_cons (pe_tup (pa_cons pe_int (pa_cons pe_int pa_nil))) (pa_cons (pe_tup (pa_cons (pe_op op_pow pe_int pe_int) pa_nil)) (pa_cons (pe_tup (pa_cons pe_int (pa_cons pe_int (pa_cons pe_int pa_nil)))) (pa_cons (pe_tup (pa_cons (pe_op op_pow pe_int pe_int) (pa_cons (pe_op op_pow pe_int pe_int) (pa_cons pe_int (pa_cons pe_int pa_nil))))) pa_nil)))))) pa_nil)))) (pss_one (ps_if (pt_not (pt_val (CG.pe_callG (ok_law_large_right T L) gd hr rfl T.m_law_large_right T.F_law_large_right.kp T.b_law_large_right .nil pass0 (pa_cons (pv 2) (pa_cons (pv 3) pa_nil))))) (pss_one (ps_ret pe_bl)) pss_nil)))))) (pss_one (ps_ret pe_bl))), ?_⟩
    have tabs : LamX.Tabs L.tabs H := fun p hp => by
      simp only [TL.tabs, List.mem_cons, List.not_mem_nil, or_false] at hp
      rcases hp with rfl | rfl
      · exact LamX.TabS.nil ht1
      · exact LamX.TabS.nil ht2
    clear ht1 ht2
    refine ⟨_, rfl, slen rfl, fun b hb => ?_⟩
    have e1 := exn (o := .lst [.int 0]) hb
    have hS1 := Evl.ex_l e1 hS
    refine ⟨a, b, _, _, rfl, rfl, hS1, SqL.of upd_same, ?_, fun c hc => ?_⟩
    · rw [List.length_map]
      exact Nat.le_trans (Nat.add_le_add_right hlen 1) (by decide)
    rw [show ns.map V.int ++ [V.int 0] = (ns ++ [0]).map V.int from by rw [List.map_append]; rfl]
    obtain ⟨us, em, lm⟩ := cut_of (ns ++ [0]) none (some 4)
    have e2 := exn (o := .lst ((ns ++ [0]).map V.int)) hc
    refine ⟨4, rfl, c, _, rfl, SqL.of upd_same, fun d hd => ?_⟩
    rw [em]
    have e3 := exn (o := .lst (us.map V.int)) hd
    have tabs3 := ((tabs.ext e1).ext e2).ext e3
    refine ⟨d, rfl, ⟨_, SqL.of upd_same⟩, ?_⟩
    refine for_it (walk_list (xs := us.map V.int)) (fun i σ H => (∃ y1 y2 y3, σ = [some (.ref a), y1, y2, y3]) ∧ H d = some (.lst (us.map V.int)) ∧ LamX.Tabs L.tabs H) ⟨⟨_, _, _, rfl⟩, upd_same, tabs3⟩ (fun i σ H _ p => SqL.of p.2.1) ?_ (fun σ H p => ?_)
    rotate_left
    · obtain ⟨⟨y1, y2, y3, rfl⟩, _⟩ := p
      exact k _
    rintro i x σ _ H1 hi ⟨⟨y1, y2, y3, rfl⟩, hd1, tb1⟩ ⟨rfl, hx⟩
    obtain ⟨n, _, rfl⟩ := map_get hx
    refine ⟨_, rfl, n, rfl, fun H2 s e2 hs src => ?_⟩
    have nds : d ≠ s := ne_of_none hd1 hs
    have hd2 := e2 _ _ hd1
    have tb2 := tb1.ext e2
    dsimp only [gName]
    refine ⟨_, rfl, _, rfl, s, 60, rfl, src, by decide, by decide, fun t ms H3 _ ht ok3 le3 _ xb3 src3 => ?_⟩
    have hd3 := xb3 _ _ nds hd2
    refine ⟨s, t, ms, rfl, src3, ht, ok3, (fun m hm => Int.le_trans (le3 m hm) (by decide +kernel)), Tabs.xb tb2 src xb3, fun H4 xn4 src4 tb4 => ?_⟩
    refine ⟨_, rfl, itf rfl ?_⟩
    dsimp only [tNext]
    have hd4 := xn4.lst nds hd3
    clear hd1 hd2 hd3 xb3 src3 ht ok3 le3 src tb2 e2 tb1 xn4
    refine ⟨_, rfl, slen rfl, ?_⟩
    (intro w1 nw1; generalize hGw1 : upd _ w1 _ = G1; have eG1 := exG hGw1 nw1; have hw1 := atG hGw1; clear hGw1)
    refine ⟨slen rfl, ?_⟩
    (intro w2 nw2; generalize hGw2 : upd _ w2 _ = G2; have eG2 := exG hGw2 nw2; have hw2 := atG hGw2; clear hGw2)
    refine ⟨_, _, rfl, rfl, ⟨by decide, by decide +kernel⟩, slen rfl, ?_⟩
    (intro w3 nw3; generalize hGw3 : upd _ w3 _ = G3; have eG3 := exG hGw3 nw3; have hw3 := atG hGw3; clear hGw3)
    refine ⟨slen rfl, ?_⟩
    (intro w4 nw4; generalize hGw4 : upd _ w4 _ = G4; have eG4 := exG hGw4 nw4; have hw4 := atG hGw4; clear hGw4)
    refine ⟨_, _, rfl, rfl, ⟨by decide, by decide +kernel⟩, _, _, rfl, rfl, ⟨by decide, by decide +kernel⟩, slen rfl, ?_⟩
    (intro w5 nw5; generalize hGw5 : upd _ w5 _ = G5; have eG5 := exG hGw5 nw5; have hw5 := atG hGw5; clear hGw5)
    refine ⟨slen rfl, ?_⟩
    (intro wl nwl; generalize hGwl : upd _ wl _ = G6; have eG6 := exG hGwl nwl; have hwl := atG hGwl; clear hGwl)
    have h20 : (10 ^ Int.toNat 20 : Int) = 100000000000000000000 := by decide +kernel
    have h9 : (10 ^ Int.toNat 9 : Int) = 1000000000 := by decide +kernel
    replace hw3 : G3 w3 = some (.tup [.int (10 ^ Int.toNat 20)]) := hw3
    replace hw5 : G5 w5 = some (.tup [.int (10 ^ Int.toNat 9), .int (10 ^ Int.toNat 9), .int 1, .int 2]) := hw5
    rw [h20] at hw3
    rw [h9] at hw5
    have u5 := eG6
    have u4 := ext eG5 u5
    have u3 := ext eG4 u4
    have u2 := ext eG3 u3
    have u1 := ext eG2 u2
    have u0 := ext eG1 u1
    have src6 := src4.mono u0
    have nwls := (src4.mono (ext eG1 (ext eG2 (ext eG3 (ext eG4 eG5))))).ne nwl
    have five : ∀ v ∈ [V.ref w1, .ref w2, .ref w3, .ref w4, .ref w5], ∃ (t : Addr) (ms : List Int), v = .ref t ∧ G6 t = some (.tup (ms.map V.int)) ∧ ms ∈ [[301], [7, 43], [100000000000000000000], [2, 3, 51], [1000000000, 1000000000, 1, 2]] := fun v hv => by
      simp only [List.mem_cons, List.not_mem_nil, or_false] at hv
      rcases hv with rfl | rfl | rfl | rfl | rfl
      · exact ⟨_, [301], rfl, u1 _ _ hw1, by simp⟩
      · exact ⟨_, [7, 43], rfl, u2 _ _ hw2, by simp⟩
      · exact ⟨_, [100000000000000000000], rfl, u3 _ _ hw3, by simp⟩
      · exact ⟨_, [2, 3, 51], rfl, u4 _ _ hw4, by simp⟩
      · exact ⟨_, [1000000000, 1000000000, 1, 2], rfl, u5 _ _ hw5, by simp⟩
    refine ⟨s, wl, _, rfl, src6, hwl, nwls, (by simp), (by show 5 ≤ 1000; decide), fun v G7 hv xb7 src7 => ?_⟩
    obtain ⟨t, ms, rfl, ht, hms⟩ := five v hv
    obtain ⟨ok, le, big⟩ := wide_of hms
    have ht7 := tup_xb src6 ht xb7
    have hd7 := xb7 _ _ nds (u0 _ _ hd4)
    dsimp only [gName]
    refine ⟨_, rfl, _, rfl, s, t, ms, rfl, src7, ht7, ok, le, big, Tabs.xb (tb4.ext u0) src6 xb7, fun G8 xn8 src8 tb8 => ?_⟩
    refine ⟨_, rfl, itf rfl ?_⟩
    exact ⟨⟨_, _, _, rfl⟩, xn8.lst nds hd7, tb8⟩
end

theorem all_mk {K : PySem.W.Frag} {h : Heap} {mg : Str → Option Value} (X : K.In h) (G : h.Ns mainGlobals mg)
    {f0 f1 f2 f3 f4 f5 f6 f7 f8 f9 f10 f11 f12 f13 f14 f15 f16 f17 f18 f19 f20 f21 f22 f23 f24 f25 f26 f27 f28 f29 f30 f31 f32 f33 f34 f35 f36 f37 f38 f39 f40 f41 f42 f43 f44 f45 f46 f47 f48 f49 f50 f51 f52 f53 f54 f55 f56 f57 f58 f59 f60 f61 f62 C_InvalidTable C_InvalidTargets C_InvalidSeat C_InvalidMoves C_TooLarge C_Table C_Record C_SeatError : Addr}
    {od0 an0 od1 an1 od2 an2 od3 an3 od4 an4 od5 an5 od6 an6 od7 an7 od8 an8 od9 an9 od10 an10 od11 an11 od12 an12 od13 an13 od14 an14 od15 an15 od16 an16 od17 an17 od18 an18 od19 an19 od20 an20 od21 an21 od22 an22 od23 an23 od24 an24 od25 an25 od26 an26 od27 an27 od28 an28 od29 an29 od30 an30 od31 an31 od32 an32 od33 an33 od34 an34 od35 an35 od36 an36 od37 an37 od38 an38 od39 an39 od40 an40 od41 an41 od42 an42 od43 an43 od44 an44 od45 an45 od46 an46 od47 an47 od48 an48 od49 an49 od50 an50 od51 an51 od52 an52 od53 an53 od54 an54 od55 an55 od56 an56 od57 an57 od58 an58 od59 an59 od60 an60 od61 an61 od62 an62 : Option Addr} {sl0 sl1 sl2 sl3 sl4 sl5 sl6 sl7 sl8 sl9 sl10 sl11 sl12 sl13 sl14 sl15 sl16 sl17 sl18 sl19 sl20 sl21 sl22 sl23 sl24 sl25 sl26 sl27 sl28 sl29 sl30 sl31 sl32 sl33 sl34 sl35 sl36 sl37 sl38 sl39 sl40 sl41 sl42 sl43 sl44 sl45 sl46 sl47 sl48 sl49 sl50 sl51 sl52 sl53 sl54 sl55 sl56 sl57 sl58 sl59 sl60 sl61 sl62 : Array (Option Value)} {oc0 kV0 dc0 pm0 cd0 ct0 oc1 kV1 dc1 pm1 cd1 ct1 oc2 kV2 dc2 pm2 cd2 ct2 oc3 kV3 dc3 pm3 cd3 ct3 oc4 kV4 dc4 pm4 cd4 ct4 oc5 kV5 dc5 pm5 cd5 ct5 oc6 kV6 dc6 pm6 cd6 ct6 oc7 kV7 dc7 pm7 cd7 ct7 oc8 kV8 dc8 pm8 cd8 ct8 oc9 kV9 dc9 pm9 cd9 ct9 oc10 kV10 dc10 pm10 cd10 ct10 oc11 kV11 dc11 pm11 cd11 ct11 oc12 kV12 dc12 pm12 cd12 ct12 oc13 kV13 dc13 pm13 cd13 ct13 oc14 kV14 dc14 pm14 cd14 ct14 oc15 kV15 dc15 pm15 cd15 ct15 oc16 kV16 dc16 pm16 cd16 ct16 oc17 kV17 dc17 pm17 cd17 ct17 oc18 kV18 dc18 pm18 cd18 ct18 oc19 kV19 dc19 pm19 cd19 ct19 oc20 kV20 dc20 pm20 cd20 ct20 oc21 kV21 dc21 pm21 cd21 ct21 oc22 kV22 dc22 pm22 cd22 ct22 oc23 kV23 dc23 pm23 cd23 ct23 oc24 kV24 dc24 pm24 cd24 ct24 oc25 kV25 dc25 pm25 cd25 ct25 oc26 kV26 dc26 pm26 cd26 ct26 oc27 kV27 dc27 pm27 cd27 ct27 oc28 kV28 dc28 pm28 cd28 ct28 oc29 kV29 dc29 pm29 cd29 ct29 oc30 kV30 dc30 pm30 cd30 ct30 oc31 kV31 dc31 pm31 cd31 ct31 oc32 kV32 dc32 pm32 cd32 ct32 oc33 kV33 dc33 pm33 cd33 ct33 oc34 kV34 dc34 pm34 cd34 ct34 oc35 kV35 dc35 pm35 cd35 ct35 oc36 kV36 dc36 pm36 cd36 ct36 oc37 kV37 dc37 pm37 cd37 ct37 oc38 kV38 dc38 pm38 cd38 ct38 oc39 kV39 dc39 pm39 cd39 ct39 oc40 kV40 dc40 pm40 cd40 ct40 oc41 kV41 dc41 pm41 cd41 ct41 oc42 kV42 dc42 pm42 cd42 ct42 oc43 kV43 dc43 pm43 cd43 ct43 oc44 kV44 dc44 pm44 cd44 ct44 oc45 kV45 dc45 pm45 cd45 ct45 oc46 kV46 dc46 pm46 cd46 ct46 oc47 kV47 dc47 pm47 cd47 ct47 oc48 kV48 dc48 pm48 cd48 ct48 oc49 kV49 dc49 pm49 cd49 ct49 oc50 kV50 dc50 pm50 cd50 ct50 oc51 kV51 dc51 pm51 cd51 ct51 oc52 kV52 dc52 pm52 cd52 ct52 oc53 kV53 dc53 pm53 cd53 ct53 oc54 kV54 dc54 pm54 cd54 ct54 oc55 kV55 dc55 pm55 cd55 ct55 oc56 kV56 dc56 pm56 cd56 ct56 oc57 kV57 dc57 pm57 cd57 ct57 oc58 kV58 dc58 pm58 cd58 ct58 oc59 kV59 dc59 pm59 cd59 ct59 oc60 kV60 dc60 pm60 cd60 ct60 oc61 kV61 dc61 pm61 cd61 ct61 oc62 kV62 dc62 pm62 cd62 ct62 : Value}
    {nm_InvalidTable q_InvalidTable : Str} {N_InvalidTable B_InvalidTable : Addr} {bs_InvalidTable sub_InvalidTable : List Value} {sn_InvalidTable : List Str} {ab_InvalidTable : Bool} {col_InvalidTable : Option Bool} {dd_InvalidTable : Option Addr} {m0_InvalidTable m1_InvalidTable m2_InvalidTable m3_InvalidTable m5_InvalidTable : Option Value}
    {nm_InvalidTargets q_InvalidTargets : Str} {N_InvalidTargets B_InvalidTargets : Addr} {bs_InvalidTargets sub_InvalidTargets : List Value} {sn_InvalidTargets : List Str} {ab_InvalidTargets : Bool} {col_InvalidTargets : Option Bool} {dd_InvalidTargets : Option Addr} {m0_InvalidTargets m1_InvalidTargets m2_InvalidTargets m3_InvalidTargets m5_InvalidTargets : Option Value}
    {nm_InvalidSeat q_InvalidSeat : Str} {N_InvalidSeat B_InvalidSeat : Addr} {bs_InvalidSeat sub_InvalidSeat : List Value} {sn_InvalidSeat : List Str} {ab_InvalidSeat : Bool} {col_InvalidSeat : Option Bool} {dd_InvalidSeat : Option Addr} {m0_InvalidSeat m1_InvalidSeat m2_InvalidSeat m3_InvalidSeat m5_InvalidSeat : Option Value}
    {nm_InvalidMoves q_InvalidMoves : Str} {N_InvalidMoves B_InvalidMoves : Addr} {bs_InvalidMoves sub_InvalidMoves : List Value} {sn_InvalidMoves : List Str} {ab_InvalidMoves : Bool} {col_InvalidMoves : Option Bool} {dd_InvalidMoves : Option Addr} {m0_InvalidMoves m1_InvalidMoves m2_InvalidMoves m3_InvalidMoves m5_InvalidMoves : Option Value}
    {nm_TooLarge q_TooLarge : Str} {N_TooLarge B_TooLarge : Addr} {bs_TooLarge sub_TooLarge : List Value} {sn_TooLarge : List Str} {ab_TooLarge : Bool} {col_TooLarge : Option Bool} {dd_TooLarge : Option Addr} {m0_TooLarge m1_TooLarge m2_TooLarge m3_TooLarge m5_TooLarge : Option Value}
    {t_MAX_RINGS t_SMALL : Tok}
    (aC_SeatError : PySem.W.nsIn K mainGlobals "SeatError" = some (some (.ref C_SeatError)))
    (ex_SeatError : PySem.W.subIn K (.ref C_SeatError) (.type "BaseException") = some true)
    (ty_SeatError : PySem.W.typeIn K (.ref C_SeatError) = some (.type "type"))
    (il_SeatError : PySem.W.isClsIn K C_SeatError = true)
    (aC_InvalidTable : PySem.W.nsIn K mainGlobals "InvalidTable" = some (some (.ref C_InvalidTable)))
    (aC_InvalidTargets : PySem.W.nsIn K mainGlobals "InvalidTargets" = some (some (.ref C_InvalidTargets)))
    (aC_InvalidSeat : PySem.W.nsIn K mainGlobals "InvalidSeat" = some (some (.ref C_InvalidSeat)))
    (aC_InvalidMoves : PySem.W.nsIn K mainGlobals "InvalidMoves" = some (some (.ref C_InvalidMoves)))
    (aC_TooLarge : PySem.W.nsIn K mainGlobals "TooLarge" = some (some (.ref C_TooLarge)))
    (aC_Table : PySem.W.nsIn K mainGlobals "Table" = some (some (.ref C_Table)))
    (aC_Record : PySem.W.nsIn K mainGlobals "Record" = some (some (.ref C_Record)))
    (a0 : PySem.W.nsIn K mainGlobals "_wall" = some (some (.ref f0)))
    (l0 : K.lookup f0 = some ⟨oc0, od0, .func (PySem.W.fnOf "_wall" "_wall" (defArgs s_wall) (defBody s_wall) (defScope s_wall) .none kV0 dc0 pm0 an0 cd0 ct0), sl0⟩)
    (c0 : PySem.W.codeIn K cd0 "_wall" = true)
    (k0 : PySem.W.keepIn K (.ref f0) = true)
    (a1 : PySem.W.findIn K (.ref C_InvalidTable) "__init__" = some (some (.ref f1)))
    (i1 : PySem.W.isFn K (.ref f1) = true)
    (l1 : K.lookup f1 = some ⟨oc1, od1, .func (PySem.W.fnOf "__init__" "InvalidTable.__init__" (defArgs s_InvalidTable_init) (defBody s_InvalidTable_init) (defScope s_InvalidTable_init) .none kV1 dc1 pm1 an1 cd1 ct1), sl1⟩)
    (c1 : PySem.W.codeIn K cd1 "InvalidTable.__init__" = true)
    (k1 : PySem.W.keepIn K (.ref f1) = true)
    (a2 : PySem.W.findIn K (.ref C_InvalidTargets) "__init__" = some (some (.ref f2)))
    (i2 : PySem.W.isFn K (.ref f2) = true)
    (l2 : K.lookup f2 = some ⟨oc2, od2, .func (PySem.W.fnOf "__init__" "InvalidTargets.__init__" (defArgs s_InvalidTargets_init) (defBody s_InvalidTargets_init) (defScope s_InvalidTargets_init) .none kV2 dc2 pm2 an2 cd2 ct2), sl2⟩)
    (c2 : PySem.W.codeIn K cd2 "InvalidTargets.__init__" = true)
    (k2 : PySem.W.keepIn K (.ref f2) = true)
    (a3 : PySem.W.findIn K (.ref C_InvalidSeat) "__init__" = some (some (.ref f3)))
    (i3 : PySem.W.isFn K (.ref f3) = true)
    (l3 : K.lookup f3 = some ⟨oc3, od3, .func (PySem.W.fnOf "__init__" "InvalidSeat.__init__" (defArgs s_InvalidSeat_init) (defBody s_InvalidSeat_init) (defScope s_InvalidSeat_init) .none kV3 dc3 pm3 an3 cd3 ct3), sl3⟩)
    (c3 : PySem.W.codeIn K cd3 "InvalidSeat.__init__" = true)
    (k3 : PySem.W.keepIn K (.ref f3) = true)
    (a4 : PySem.W.findIn K (.ref C_InvalidMoves) "__init__" = some (some (.ref f4)))
    (i4 : PySem.W.isFn K (.ref f4) = true)
    (l4 : K.lookup f4 = some ⟨oc4, od4, .func (PySem.W.fnOf "__init__" "InvalidMoves.__init__" (defArgs s_InvalidMoves_init) (defBody s_InvalidMoves_init) (defScope s_InvalidMoves_init) .none kV4 dc4 pm4 an4 cd4 ct4), sl4⟩)
    (c4 : PySem.W.codeIn K cd4 "InvalidMoves.__init__" = true)
    (k4 : PySem.W.keepIn K (.ref f4) = true)
    (a5 : PySem.W.findIn K (.ref C_TooLarge) "__init__" = some (some (.ref f5)))
    (i5 : PySem.W.isFn K (.ref f5) = true)
    (l5 : K.lookup f5 = some ⟨oc5, od5, .func (PySem.W.fnOf "__init__" "TooLarge.__init__" (defArgs s_TooLarge_init) (defBody s_TooLarge_init) (defScope s_TooLarge_init) .none kV5 dc5 pm5 an5 cd5 ct5), sl5⟩)
    (c5 : PySem.W.codeIn K cd5 "TooLarge.__init__" = true)
    (k5 : PySem.W.keepIn K (.ref f5) = true)
    (a6 : PySem.W.nsIn K mainGlobals "is_integer" = some (some (.ref f6)))
    (l6 : K.lookup f6 = some ⟨oc6, od6, .func (PySem.W.fnOf "is_integer" "is_integer" (defArgs s_is_integer) (defBody s_is_integer) (defScope s_is_integer) .none kV6 dc6 pm6 an6 cd6 ct6), sl6⟩)
    (c6 : PySem.W.codeIn K cd6 "is_integer" = true)
    (k6 : PySem.W.keepIn K (.ref f6) = true)
    (a7 : PySem.W.nsIn K mainGlobals "is_at_least" = some (some (.ref f7)))
    (l7 : K.lookup f7 = some ⟨oc7, od7, .func (PySem.W.fnOf "is_at_least" "is_at_least" (defArgs s_is_at_least) (defBody s_is_at_least) (defScope s_is_at_least) .none kV7 dc7 pm7 an7 cd7 ct7), sl7⟩)
    (c7 : PySem.W.codeIn K cd7 "is_at_least" = true)
    (k7 : PySem.W.keepIn K (.ref f7) = true)
    (a8 : PySem.W.nsIn K mainGlobals "is_between" = some (some (.ref f8)))
    (l8 : K.lookup f8 = some ⟨oc8, od8, .func (PySem.W.fnOf "is_between" "is_between" (defArgs s_is_between) (defBody s_is_between) (defScope s_is_between) .none kV8 dc8 pm8 an8 cd8 ct8), sl8⟩)
    (c8 : PySem.W.codeIn K cd8 "is_between" = true)
    (k8 : PySem.W.keepIn K (.ref f8) = true)
    (a9 : PySem.W.nsIn K mainGlobals "greatest_common_divisor" = some (some (.ref f9)))
    (l9 : K.lookup f9 = some ⟨oc9, od9, .func (PySem.W.fnOf "greatest_common_divisor" "greatest_common_divisor" (defArgs s_greatest_common_divisor) (defBody s_greatest_common_divisor) (defScope s_greatest_common_divisor) .none kV9 dc9 pm9 an9 cd9 ct9), sl9⟩)
    (c9 : PySem.W.codeIn K cd9 "greatest_common_divisor" = true)
    (k9 : PySem.W.keepIn K (.ref f9) = true)
    (a10 : PySem.W.findIn K (.ref C_Table) "__init__" = some (some (.ref f10)))
    (i10 : PySem.W.isFn K (.ref f10) = true)
    (l10 : K.lookup f10 = some ⟨oc10, od10, .func (PySem.W.fnOf "__init__" "Table.__init__" (defArgs s_Table_init) (defBody s_Table_init) (defScope s_Table_init) .none kV10 dc10 pm10 an10 cd10 ct10), sl10⟩)
    (c10 : PySem.W.codeIn K cd10 "Table.__init__" = true)
    (k10 : PySem.W.keepIn K (.ref f10) = true)
    (a11 : PySem.W.findIn K (.ref C_Table) "sizes" = some (some (.ref f11)))
    (i11 : PySem.W.isFn K (.ref f11) = true)
    (l11 : K.lookup f11 = some ⟨oc11, od11, .func (PySem.W.fnOf "sizes" "Table.sizes" (defArgs s_Table_sizes) (defBody s_Table_sizes) (defScope s_Table_sizes) .none kV11 dc11 pm11 an11 cd11 ct11), sl11⟩)
    (c11 : PySem.W.codeIn K cd11 "Table.sizes" = true)
    (k11 : PySem.W.keepIn K (.ref f11) = true)
    (a12 : PySem.W.findIn K (.ref C_Table) "count" = some (some (.ref f12)))
    (i12 : PySem.W.isFn K (.ref f12) = true)
    (l12 : K.lookup f12 = some ⟨oc12, od12, .func (PySem.W.fnOf "count" "Table.count" (defArgs s_Table_count) (defBody s_Table_count) (defScope s_Table_count) .none kV12 dc12 pm12 an12 cd12 ct12), sl12⟩)
    (c12 : PySem.W.codeIn K cd12 "Table.count" = true)
    (k12 : PySem.W.keepIn K (.ref f12) = true)
    (a13 : PySem.W.findIn K (.ref C_Table) "is_seat" = some (some (.ref f13)))
    (i13 : PySem.W.isFn K (.ref f13) = true)
    (l13 : K.lookup f13 = some ⟨oc13, od13, .func (PySem.W.fnOf "is_seat" "Table.is_seat" (defArgs s_Table_is_seat) (defBody s_Table_is_seat) (defScope s_Table_is_seat) .none kV13 dc13 pm13 an13 cd13 ct13), sl13⟩)
    (c13 : PySem.W.codeIn K cd13 "Table.is_seat" = true)
    (k13 : PySem.W.keepIn K (.ref f13) = true)
    (a14 : PySem.W.findIn K (.ref C_Table) "is_call" = some (some (.ref f14)))
    (i14 : PySem.W.isFn K (.ref f14) = true)
    (l14 : K.lookup f14 = some ⟨oc14, od14, .func (PySem.W.fnOf "is_call" "Table.is_call" (defArgs s_Table_is_call) (defBody s_Table_is_call) (defScope s_Table_is_call) .none kV14 dc14 pm14 an14 cd14 ct14), sl14⟩)
    (c14 : PySem.W.codeIn K cd14 "Table.is_call" = true)
    (k14 : PySem.W.keepIn K (.ref f14) = true)
    (a15 : PySem.W.findIn K (.ref C_Table) "shifted" = some (some (.ref f15)))
    (i15 : PySem.W.isFn K (.ref f15) = true)
    (l15 : K.lookup f15 = some ⟨oc15, od15, .func (PySem.W.fnOf "shifted" "Table.shifted" (defArgs s_Table_shifted) (defBody s_Table_shifted) (defScope s_Table_shifted) .none kV15 dc15 pm15 an15 cd15 ct15), sl15⟩)
    (c15 : PySem.W.codeIn K cd15 "Table.shifted" = true)
    (k15 : PySem.W.keepIn K (.ref f15) = true)
    (a16 : PySem.W.findIn K (.ref C_Table) "moves" = some (some (.ref f16)))
    (i16 : PySem.W.isFn K (.ref f16) = true)
    (l16 : K.lookup f16 = some ⟨oc16, od16, .func (PySem.W.fnOf "moves" "Table.moves" (defArgs s_Table_moves) (defBody s_Table_moves) (defScope s_Table_moves) .none kV16 dc16 pm16 an16 cd16 ct16), sl16⟩)
    (c16 : PySem.W.codeIn K cd16 "Table.moves" = true)
    (k16 : PySem.W.keepIn K (.ref f16) = true)
    (a17 : PySem.W.findIn K (.ref C_Table) "step" = some (some (.ref f17)))
    (i17 : PySem.W.isFn K (.ref f17) = true)
    (l17 : K.lookup f17 = some ⟨oc17, od17, .func (PySem.W.fnOf "step" "Table.step" (defArgs s_Table_step) (defBody s_Table_step) (defScope s_Table_step) .none kV17 dc17 pm17 an17 cd17 ct17), sl17⟩)
    (c17 : PySem.W.codeIn K cd17 "Table.step" = true)
    (k17 : PySem.W.keepIn K (.ref f17) = true)
    (a18 : PySem.W.findIn K (.ref C_Table) "order" = some (some (.ref f18)))
    (i18 : PySem.W.isFn K (.ref f18) = true)
    (l18 : K.lookup f18 = some ⟨oc18, od18, .func (PySem.W.fnOf "order" "Table.order" (defArgs s_Table_order) (defBody s_Table_order) (defScope s_Table_order) .none kV18 dc18 pm18 an18 cd18 ct18), sl18⟩)
    (c18 : PySem.W.codeIn K cd18 "Table.order" = true)
    (k18 : PySem.W.keepIn K (.ref f18) = true)
    (a19 : PySem.W.findIn K (.ref C_Table) "halves" = some (some (.ref f19)))
    (i19 : PySem.W.isFn K (.ref f19) = true)
    (l19 : K.lookup f19 = some ⟨oc19, od19, .func (PySem.W.fnOf "halves" "Table.halves" (defArgs s_Table_halves) (defBody s_Table_halves) (defScope s_Table_halves) .none kV19 dc19 pm19 an19 cd19 ct19), sl19⟩)
    (c19 : PySem.W.codeIn K cd19 "Table.halves" = true)
    (k19 : PySem.W.keepIn K (.ref f19) = true)
    (a20 : PySem.W.nsIn K mainGlobals "is_direction" = some (some (.ref f20)))
    (l20 : K.lookup f20 = some ⟨oc20, od20, .func (PySem.W.fnOf "is_direction" "is_direction" (defArgs s_is_direction) (defBody s_is_direction) (defScope s_is_direction) .none kV20 dc20 pm20 an20 cd20 ct20), sl20⟩)
    (c20 : PySem.W.codeIn K cd20 "is_direction" = true)
    (k20 : PySem.W.keepIn K (.ref f20) = true)
    (a21 : PySem.W.nsIn K mainGlobals "require_table" = some (some (.ref f21)))
    (l21 : K.lookup f21 = some ⟨oc21, od21, .func (PySem.W.fnOf "require_table" "require_table" (defArgs s_require_table) (defBody s_require_table) (defScope s_require_table) .none kV21 dc21 pm21 an21 cd21 ct21), sl21⟩)
    (c21 : PySem.W.codeIn K cd21 "require_table" = true)
    (k21 : PySem.W.keepIn K (.ref f21) = true)
    (a22 : PySem.W.nsIn K mainGlobals "require_seat" = some (some (.ref f22)))
    (l22 : K.lookup f22 = some ⟨oc22, od22, .func (PySem.W.fnOf "require_seat" "require_seat" (defArgs s_require_seat) (defBody s_require_seat) (defScope s_require_seat) .none kV22 dc22 pm22 an22 cd22 ct22), sl22⟩)
    (c22 : PySem.W.codeIn K cd22 "require_seat" = true)
    (k22 : PySem.W.keepIn K (.ref f22) = true)
    (a23 : PySem.W.nsIn K mainGlobals "require_call" = some (some (.ref f23)))
    (l23 : K.lookup f23 = some ⟨oc23, od23, .func (PySem.W.fnOf "require_call" "require_call" (defArgs s_require_call) (defBody s_require_call) (defScope s_require_call) .none kV23 dc23 pm23 an23 cd23 ct23), sl23⟩)
    (c23 : PySem.W.codeIn K cd23 "require_call" = true)
    (k23 : PySem.W.keepIn K (.ref f23) = true)
    (a24 : PySem.W.nsIn K mainGlobals "require_targets" = some (some (.ref f24)))
    (l24 : K.lookup f24 = some ⟨oc24, od24, .func (PySem.W.fnOf "require_targets" "require_targets" (defArgs s_require_targets) (defBody s_require_targets) (defScope s_require_targets) .none kV24 dc24 pm24 an24 cd24 ct24), sl24⟩)
    (c24 : PySem.W.codeIn K cd24 "require_targets" = true)
    (k24 : PySem.W.keepIn K (.ref f24) = true)
    (a25 : PySem.W.nsIn K mainGlobals "require_small" = some (some (.ref f25)))
    (l25 : K.lookup f25 = some ⟨oc25, od25, .func (PySem.W.fnOf "require_small" "require_small" (defArgs s_require_small) (defBody s_require_small) (defScope s_require_small) .none kV25 dc25 pm25 an25 cd25 ct25), sl25⟩)
    (c25 : PySem.W.codeIn K cd25 "require_small" = true)
    (k25 : PySem.W.keepIn K (.ref f25) = true)
    (a26 : PySem.W.nsIn K mainGlobals "all_seats" = some (some (.ref f26)))
    (l26 : K.lookup f26 = some ⟨oc26, od26, .func (PySem.W.fnOf "all_seats" "all_seats" (defArgs s_all_seats) (defBody s_all_seats) (defScope s_all_seats) .none kV26 dc26 pm26 an26 cd26 ct26), sl26⟩)
    (c26 : PySem.W.codeIn K cd26 "all_seats" = true)
    (k26 : PySem.W.keepIn K (.ref f26) = true)
    (a27 : PySem.W.nsIn K mainGlobals "mirror_seat" = some (some (.ref f27)))
    (l27 : K.lookup f27 = some ⟨oc27, od27, .func (PySem.W.fnOf "mirror_seat" "mirror_seat" (defArgs s_mirror_seat) (defBody s_mirror_seat) (defScope s_mirror_seat) .none kV27 dc27 pm27 an27 cd27 ct27), sl27⟩)
    (c27 : PySem.W.codeIn K cd27 "mirror_seat" = true)
    (k27 : PySem.W.keepIn K (.ref f27) = true)
    (a28 : PySem.W.nsIn K mainGlobals "call_counts" = some (some (.ref f28)))
    (l28 : K.lookup f28 = some ⟨oc28, od28, .func (PySem.W.fnOf "call_counts" "call_counts" (defArgs s_call_counts) (defBody s_call_counts) (defScope s_call_counts) .none kV28 dc28 pm28 an28 cd28 ct28), sl28⟩)
    (c28 : PySem.W.codeIn K cd28 "call_counts" = true)
    (k28 : PySem.W.keepIn K (.ref f28) = true)
    (a29 : PySem.W.nsIn K mainGlobals "weighted" = some (some (.ref f29)))
    (l29 : K.lookup f29 = some ⟨oc29, od29, .func (PySem.W.fnOf "weighted" "weighted" (defArgs s_weighted) (defBody s_weighted) (defScope s_weighted) .none kV29 dc29 pm29 an29 cd29 ct29), sl29⟩)
    (c29 : PySem.W.codeIn K cd29 "weighted" = true)
    (k29 : PySem.W.keepIn K (.ref f29) = true)
    (a30 : PySem.W.nsIn K mainGlobals "is_move" = some (some (.ref f30)))
    (l30 : K.lookup f30 = some ⟨oc30, od30, .func (PySem.W.fnOf "is_move" "is_move" (defArgs s_is_move) (defBody s_is_move) (defScope s_is_move) .none kV30 dc30 pm30 an30 cd30 ct30), sl30⟩)
    (c30 : PySem.W.codeIn K cd30 "is_move" = true)
    (k30 : PySem.W.keepIn K (.ref f30) = true)
    (a31 : PySem.W.nsIn K mainGlobals "require_moves" = some (some (.ref f31)))
    (l31 : K.lookup f31 = some ⟨oc31, od31, .func (PySem.W.fnOf "require_moves" "require_moves" (defArgs s_require_moves) (defBody s_require_moves) (defScope s_require_moves) .none kV31 dc31 pm31 an31 cd31 ct31), sl31⟩)
    (c31 : PySem.W.codeIn K cd31 "require_moves" = true)
    (k31 : PySem.W.keepIn K (.ref f31) = true)
    (a32 : PySem.W.nsIn K mainGlobals "visited_seats" = some (some (.ref f32)))
    (l32 : K.lookup f32 = some ⟨oc32, od32, .func (PySem.W.fnOf "visited_seats" "visited_seats" (defArgs s_visited_seats) (defBody s_visited_seats) (defScope s_visited_seats) .none kV32 dc32 pm32 an32 cd32 ct32), sl32⟩)
    (c32 : PySem.W.codeIn K cd32 "visited_seats" = true)
    (k32 : PySem.W.keepIn K (.ref f32) = true)
    (a33 : PySem.W.nsIn K mainGlobals "larger" = some (some (.ref f33)))
    (l33 : K.lookup f33 = some ⟨oc33, od33, .func (PySem.W.fnOf "larger" "larger" (defArgs s_larger) (defBody s_larger) (defScope s_larger) .none kV33 dc33 pm33 an33 cd33 ct33), sl33⟩)
    (c33 : PySem.W.codeIn K cd33 "larger" = true)
    (k33 : PySem.W.keepIn K (.ref f33) = true)
    (a34 : PySem.W.nsIn K mainGlobals "caller_loss" = some (some (.ref f34)))
    (l34 : K.lookup f34 = some ⟨oc34, od34, .func (PySem.W.fnOf "caller_loss" "caller_loss" (defArgs s_caller_loss) (defBody s_caller_loss) (defScope s_caller_loss) .none kV34 dc34 pm34 an34 cd34 ct34), sl34⟩)
    (c34 : PySem.W.codeIn K cd34 "caller_loss" = true)
    (k34 : PySem.W.keepIn K (.ref f34) = true)
    (a35 : PySem.W.nsIn K mainGlobals "responder_loss" = some (some (.ref f35)))
    (l35 : K.lookup f35 = some ⟨oc35, od35, .func (PySem.W.fnOf "responder_loss" "responder_loss" (defArgs s_responder_loss) (defBody s_responder_loss) (defScope s_responder_loss) .none kV35 dc35 pm35 an35 cd35 ct35), sl35⟩)
    (c35 : PySem.W.codeIn K cd35 "responder_loss" = true)
    (k35 : PySem.W.keepIn K (.ref f35) = true)
    (a36 : PySem.W.findIn K (.ref C_Record) "__init__" = some (some (.ref f36)))
    (i36 : PySem.W.isFn K (.ref f36) = true)
    (l36 : K.lookup f36 = some ⟨oc36, od36, .func (PySem.W.fnOf "__init__" "Record.__init__" (defArgs s_Record_init) (defBody s_Record_init) (defScope s_Record_init) .none kV36 dc36 pm36 an36 cd36 ct36), sl36⟩)
    (c36 : PySem.W.codeIn K cd36 "Record.__init__" = true)
    (k36 : PySem.W.keepIn K (.ref f36) = true)
    (a37 : PySem.W.findIn K (.ref C_Record) "seats" = some (some (.ref f37)))
    (i37 : PySem.W.isFn K (.ref f37) = true)
    (l37 : K.lookup f37 = some ⟨oc37, od37, .func (PySem.W.fnOf "seats" "Record.seats" (defArgs s_Record_seats) (defBody s_Record_seats) (defScope s_Record_seats) .none kV37 dc37 pm37 an37 cd37 ct37), sl37⟩)
    (c37 : PySem.W.codeIn K cd37 "Record.seats" = true)
    (k37 : PySem.W.keepIn K (.ref f37) = true)
    (a38 : PySem.W.findIn K (.ref C_Record) "calls_to_target" = some (some (.ref f38)))
    (i38 : PySem.W.isFn K (.ref f38) = true)
    (l38 : K.lookup f38 = some ⟨oc38, od38, .func (PySem.W.fnOf "calls_to_target" "Record.calls_to_target" (defArgs s_Record_calls_to_target) (defBody s_Record_calls_to_target) (defScope s_Record_calls_to_target) .none kV38 dc38 pm38 an38 cd38 ct38), sl38⟩)
    (c38 : PySem.W.codeIn K cd38 "Record.calls_to_target" = true)
    (k38 : PySem.W.keepIn K (.ref f38) = true)
    (a39 : PySem.W.findIn K (.ref C_Record) "losses" = some (some (.ref f39)))
    (i39 : PySem.W.isFn K (.ref f39) = true)
    (l39 : K.lookup f39 = some ⟨oc39, od39, .func (PySem.W.fnOf "losses" "Record.losses" (defArgs s_Record_losses) (defBody s_Record_losses) (defScope s_Record_losses) .none kV39 dc39 pm39 an39 cd39 ct39), sl39⟩)
    (c39 : PySem.W.codeIn K cd39 "Record.losses" = true)
    (k39 : PySem.W.keepIn K (.ref f39) = true)
    (a40 : PySem.W.findIn K (.ref C_Record) "first_mistake" = some (some (.ref f40)))
    (i40 : PySem.W.isFn K (.ref f40) = true)
    (l40 : K.lookup f40 = some ⟨oc40, od40, .func (PySem.W.fnOf "first_mistake" "Record.first_mistake" (defArgs s_Record_first_mistake) (defBody s_Record_first_mistake) (defScope s_Record_first_mistake) .none kV40 dc40 pm40 an40 cd40 ct40), sl40⟩)
    (c40 : PySem.W.codeIn K cd40 "Record.first_mistake" = true)
    (k40 : PySem.W.keepIn K (.ref f40) = true)
    (a41 : PySem.W.nsIn K mainGlobals "common_exponent" = some (some (.ref f41)))
    (l41 : K.lookup f41 = some ⟨oc41, od41, .func (PySem.W.fnOf "common_exponent" "common_exponent" (defArgs s_common_exponent) (defBody s_common_exponent) (defScope s_common_exponent) .none kV41 dc41 pm41 an41 cd41 ct41), sl41⟩)
    (c41 : PySem.W.codeIn K cd41 "common_exponent" = true)
    (k41 : PySem.W.keepIn K (.ref f41) = true)
    (a42 : PySem.W.nsIn K mainGlobals "weight_rows" = some (some (.ref f42)))
    (l42 : K.lookup f42 = some ⟨oc42, od42, .func (PySem.W.fnOf "weight_rows" "weight_rows" (defArgs s_weight_rows) (defBody s_weight_rows) (defScope s_weight_rows) .none kV42 dc42 pm42 an42 cd42 ct42), sl42⟩)
    (c42 : PySem.W.codeIn K cd42 "weight_rows" = true)
    (k42 : PySem.W.keepIn K (.ref f42) = true)
    (a43 : PySem.W.nsIn K mainGlobals "units_of" = some (some (.ref f43)))
    (l43 : K.lookup f43 = some ⟨oc43, od43, .func (PySem.W.fnOf "units_of" "units_of" (defArgs s_units_of) (defBody s_units_of) (defScope s_units_of) .none kV43 dc43 pm43 an43 cd43 ct43), sl43⟩)
    (c43 : PySem.W.codeIn K cd43 "units_of" = true)
    (k43 : PySem.W.keepIn K (.ref f43) = true)
    (a44 : PySem.W.nsIn K mainGlobals "is_canonical" = some (some (.ref f44)))
    (l44 : K.lookup f44 = some ⟨oc44, od44, .func (PySem.W.fnOf "is_canonical" "is_canonical" (defArgs s_is_canonical) (defBody s_is_canonical) (defScope s_is_canonical) .none kV44 dc44 pm44 an44 cd44 ct44), sl44⟩)
    (c44 : PySem.W.codeIn K cd44 "is_canonical" = true)
    (k44 : PySem.W.keepIn K (.ref f44) = true)
    (a45 : PySem.W.nsIn K mainGlobals "explains" = some (some (.ref f45)))
    (l45 : K.lookup f45 = some ⟨oc45, od45, .func (PySem.W.fnOf "explains" "explains" (defArgs s_explains) (defBody s_explains) (defScope s_explains) .none kV45 dc45 pm45 an45 cd45 ct45), sl45⟩)
    (c45 : PySem.W.codeIn K cd45 "explains" = true)
    (k45 : PySem.W.keepIn K (.ref f45) = true)
    (a46 : PySem.W.nsIn K mainGlobals "consistent_witnesses" = some (some (.ref f46)))
    (l46 : K.lookup f46 = some ⟨oc46, od46, .func (PySem.W.fnOf "consistent_witnesses" "consistent_witnesses" (defArgs s_consistent_witnesses) (defBody s_consistent_witnesses) (defScope s_consistent_witnesses) .none kV46 dc46 pm46 an46 cd46 ct46), sl46⟩)
    (c46 : PySem.W.codeIn K cd46 "consistent_witnesses" = true)
    (k46 : PySem.W.keepIn K (.ref f46) = true)
    (a47 : PySem.W.nsIn K mainGlobals "_law_mixed" = some (some (.ref f47)))
    (l47 : K.lookup f47 = some ⟨oc47, od47, .func (PySem.W.fnOf "_law_mixed" "_law_mixed" (defArgs s_law_mixed) (defBody s_law_mixed) (defScope s_law_mixed) .none kV47 dc47 pm47 an47 cd47 ct47), sl47⟩)
    (c47 : PySem.W.codeIn K cd47 "_law_mixed" = true)
    (k47 : PySem.W.keepIn K (.ref f47) = true)
    (a48 : PySem.W.nsIn K mainGlobals "_law_source" = some (some (.ref f48)))
    (l48 : K.lookup f48 = some ⟨oc48, od48, .func (PySem.W.fnOf "_law_source" "_law_source" (defArgs s_law_source) (defBody s_law_source) (defScope s_law_source) .none kV48 dc48 pm48 an48 cd48 ct48), sl48⟩)
    (c48 : PySem.W.codeIn K cd48 "_law_source" = true)
    (k48 : PySem.W.keepIn K (.ref f48) = true)
    (a49 : PySem.W.nsIn K mainGlobals "_law_take" = some (some (.ref f49)))
    (l49 : K.lookup f49 = some ⟨oc49, od49, .func (PySem.W.fnOf "_law_take" "_law_take" (defArgs s_law_take) (defBody s_law_take) (defScope s_law_take) .none kV49 dc49 pm49 an49 cd49 ct49), sl49⟩)
    (c49 : PySem.W.codeIn K cd49 "_law_take" = true)
    (k49 : PySem.W.keepIn K (.ref f49) = true)
    (a50 : PySem.W.nsIn K mainGlobals "_law_one" = some (some (.ref f50)))
    (l50 : K.lookup f50 = some ⟨oc50, od50, .func (PySem.W.fnOf "_law_one" "_law_one" (defArgs s_law_one) (defBody s_law_one) (defScope s_law_one) .none kV50 dc50 pm50 an50 cd50 ct50), sl50⟩)
    (c50 : PySem.W.codeIn K cd50 "_law_one" = true)
    (k50 : PySem.W.keepIn K (.ref f50) = true)
    (a51 : PySem.W.nsIn K mainGlobals "_law_rings" = some (some (.ref f51)))
    (l51 : K.lookup f51 = some ⟨oc51, od51, .func (PySem.W.fnOf "_law_rings" "_law_rings" (defArgs s_law_rings) (defBody s_law_rings) (defScope s_law_rings) .none kV51 dc51 pm51 an51 cd51 ct51), sl51⟩)
    (c51 : PySem.W.codeIn K cd51 "_law_rings" = true)
    (k51 : PySem.W.keepIn K (.ref f51) = true)
    (a52 : PySem.W.nsIn K mainGlobals "_law_seat" = some (some (.ref f52)))
    (l52 : K.lookup f52 = some ⟨oc52, od52, .func (PySem.W.fnOf "_law_seat" "_law_seat" (defArgs s_law_seat) (defBody s_law_seat) (defScope s_law_seat) .none kV52 dc52 pm52 an52 cd52 ct52), sl52⟩)
    (c52 : PySem.W.codeIn K cd52 "_law_seat" = true)
    (k52 : PySem.W.keepIn K (.ref f52) = true)
    (a53 : PySem.W.nsIn K mainGlobals "_law_seats" = some (some (.ref f53)))
    (l53 : K.lookup f53 = some ⟨oc53, od53, .func (PySem.W.fnOf "_law_seats" "_law_seats" (defArgs s_law_seats) (defBody s_law_seats) (defScope s_law_seats) .none kV53 dc53 pm53 an53 cd53 ct53), sl53⟩)
    (c53 : PySem.W.codeIn K cd53 "_law_seats" = true)
    (k53 : PySem.W.keepIn K (.ref f53) = true)
    (a54 : PySem.W.nsIn K mainGlobals "_law_call" = some (some (.ref f54)))
    (l54 : K.lookup f54 = some ⟨oc54, od54, .func (PySem.W.fnOf "_law_call" "_law_call" (defArgs s_law_call) (defBody s_law_call) (defScope s_law_call) .none kV54 dc54 pm54 an54 cd54 ct54), sl54⟩)
    (c54 : PySem.W.codeIn K cd54 "_law_call" = true)
    (k54 : PySem.W.keepIn K (.ref f54) = true)
    (a55 : PySem.W.nsIn K mainGlobals "_law_moves" = some (some (.ref f55)))
    (l55 : K.lookup f55 = some ⟨oc55, od55, .func (PySem.W.fnOf "_law_moves" "_law_moves" (defArgs s_law_moves) (defBody s_law_moves) (defScope s_law_moves) .none kV55 dc55 pm55 an55 cd55 ct55), sl55⟩)
    (c55 : PySem.W.codeIn K cd55 "_law_moves" = true)
    (k55 : PySem.W.keepIn K (.ref f55) = true)
    (a56 : PySem.W.nsIn K mainGlobals "_law_raised" = some (some (.ref f56)))
    (l56 : K.lookup f56 = some ⟨oc56, od56, .func (PySem.W.fnOf "_law_raised" "_law_raised" (defArgs s_law_raised) (defBody s_law_raised) (defScope s_law_raised) .none kV56 dc56 pm56 an56 cd56 ct56), sl56⟩)
    (c56 : PySem.W.codeIn K cd56 "_law_raised" = true)
    (k56 : PySem.W.keepIn K (.ref f56) = true)
    (a57 : PySem.W.nsIn K mainGlobals "_law_bad_seat" = some (some (.ref f57)))
    (l57 : K.lookup f57 = some ⟨oc57, od57, .func (PySem.W.fnOf "_law_bad_seat" "_law_bad_seat" (defArgs s_law_bad_seat) (defBody s_law_bad_seat) (defScope s_law_bad_seat) .none kV57 dc57 pm57 an57 cd57 ct57), sl57⟩)
    (c57 : PySem.W.codeIn K cd57 "_law_bad_seat" = true)
    (k57 : PySem.W.keepIn K (.ref f57) = true)
    (a58 : PySem.W.nsIn K mainGlobals "_law_bad_targets" = some (some (.ref f58)))
    (l58 : K.lookup f58 = some ⟨oc58, od58, .func (PySem.W.fnOf "_law_bad_targets" "_law_bad_targets" (defArgs s_law_bad_targets) (defBody s_law_bad_targets) (defScope s_law_bad_targets) .none kV58 dc58 pm58 an58 cd58 ct58), sl58⟩)
    (c58 : PySem.W.codeIn K cd58 "_law_bad_targets" = true)
    (k58 : PySem.W.keepIn K (.ref f58) = true)
    (a59 : PySem.W.nsIn K mainGlobals "_law_bad_move" = some (some (.ref f59)))
    (l59 : K.lookup f59 = some ⟨oc59, od59, .func (PySem.W.fnOf "_law_bad_move" "_law_bad_move" (defArgs s_law_bad_move) (defBody s_law_bad_move) (defScope s_law_bad_move) .none kV59 dc59 pm59 an59 cd59 ct59), sl59⟩)
    (c59 : PySem.W.codeIn K cd59 "_law_bad_move" = true)
    (k59 : PySem.W.keepIn K (.ref f59) = true)
    (a60 : PySem.W.nsIn K mainGlobals "_law_right" = some (some (.ref f60)))
    (l60 : K.lookup f60 = some ⟨oc60, od60, .func (PySem.W.fnOf "_law_right" "_law_right" (defArgs s_law_right) (defBody s_law_right) (defScope s_law_right) .none kV60 dc60 pm60 an60 cd60 ct60), sl60⟩)
    (c60 : PySem.W.codeIn K cd60 "_law_right" = true)
    (k60 : PySem.W.keepIn K (.ref f60) = true)
    (a61 : PySem.W.nsIn K mainGlobals "_law_large_right" = some (some (.ref f61)))
    (l61 : K.lookup f61 = some ⟨oc61, od61, .func (PySem.W.fnOf "_law_large_right" "_law_large_right" (defArgs s_law_large_right) (defBody s_law_large_right) (defScope s_law_large_right) .none kV61 dc61 pm61 an61 cd61 ct61), sl61⟩)
    (c61 : PySem.W.codeIn K cd61 "_law_large_right" = true)
    (k61 : PySem.W.keepIn K (.ref f61) = true)
    (a62 : PySem.W.nsIn K mainGlobals "law" = some (some (.ref f62)))
    (l62 : K.lookup f62 = some ⟨oc62, od62, .func (PySem.W.fnOf "law" "law" (defArgs s_law) (defBody s_law) (defScope s_law) .none kV62 dc62 pm62 an62 cd62 ct62), sl62⟩)
    (c62 : PySem.W.codeIn K cd62 "law" = true)
    (k62 : PySem.W.keepIn K (.ref f62) = true)
    (xl_InvalidTable : K.lookup C_InvalidTable = some (excClassObj nm_InvalidTable q_InvalidTable C_InvalidTable N_InvalidTable bs_InvalidTable [.ref B_InvalidTable, .type "ValueError", .type "Exception", .type "BaseException", .type "object"] true sn_InvalidTable sub_InvalidTable ab_InvalidTable col_InvalidTable dd_InvalidTable m0_InvalidTable m1_InvalidTable m2_InvalidTable m3_InvalidTable m5_InvalidTable "ValueError.__new__"))
    (sa_InvalidTable : PySem.W.findIn K (.ref C_InvalidTable) "__setattr__" = some (some (.builtin "object.__setattr__")))
    (ga_InvalidTable : PySem.W.findIn K (.ref C_InvalidTable) "__getattribute__" = some (some (.builtin "BaseException.__getattribute__")))
    (gg_InvalidTable : PySem.W.findIn K (.ref C_InvalidTable) "__getattr__" = some none)
    (ti_InvalidTable : PySem.W.typeIn K (.ref f1) = some (.type "function"))
    (kc_InvalidTable : PySem.W.keepIn K (.ref C_InvalidTable) = true)
    (ex_InvalidTable : PySem.W.subIn K (.ref C_InvalidTable) (.type "BaseException") = some true)
    (ty_InvalidTable : PySem.W.typeIn K (.ref C_InvalidTable) = some (.type "type"))
    (hd_InvalidTable : PySem.W.hasDictIn K C_InvalidTable = true)
    (il_InvalidTable : PySem.W.isClsIn K C_InvalidTable = true)
    (ss_InvalidTable : PySem.W.subIn K (.ref C_InvalidTable) (.ref C_InvalidTable) = some true)
    (ss_InvalidTable_SeatError : PySem.W.subIn K (.ref C_InvalidTable) (.ref C_SeatError) = some true)
    (n_InvalidTable_rings : PySem.W.findIn K (.ref C_InvalidTable) "rings" = some none)
    (xl_InvalidTargets : K.lookup C_InvalidTargets = some (excClassObj nm_InvalidTargets q_InvalidTargets C_InvalidTargets N_InvalidTargets bs_InvalidTargets [.ref B_InvalidTargets, .type "ValueError", .type "Exception", .type "BaseException", .type "object"] true sn_InvalidTargets sub_InvalidTargets ab_InvalidTargets col_InvalidTargets dd_InvalidTargets m0_InvalidTargets m1_InvalidTargets m2_InvalidTargets m3_InvalidTargets m5_InvalidTargets "ValueError.__new__"))
    (sa_InvalidTargets : PySem.W.findIn K (.ref C_InvalidTargets) "__setattr__" = some (some (.builtin "object.__setattr__")))
    (ga_InvalidTargets : PySem.W.findIn K (.ref C_InvalidTargets) "__getattribute__" = some (some (.builtin "BaseException.__getattribute__")))
    (gg_InvalidTargets : PySem.W.findIn K (.ref C_InvalidTargets) "__getattr__" = some none)
    (ti_InvalidTargets : PySem.W.typeIn K (.ref f2) = some (.type "function"))
    (kc_InvalidTargets : PySem.W.keepIn K (.ref C_InvalidTargets) = true)
    (ex_InvalidTargets : PySem.W.subIn K (.ref C_InvalidTargets) (.type "BaseException") = some true)
    (ty_InvalidTargets : PySem.W.typeIn K (.ref C_InvalidTargets) = some (.type "type"))
    (hd_InvalidTargets : PySem.W.hasDictIn K C_InvalidTargets = true)
    (il_InvalidTargets : PySem.W.isClsIn K C_InvalidTargets = true)
    (ss_InvalidTargets : PySem.W.subIn K (.ref C_InvalidTargets) (.ref C_InvalidTargets) = some true)
    (ss_InvalidTargets_SeatError : PySem.W.subIn K (.ref C_InvalidTargets) (.ref C_SeatError) = some true)
    (so_InvalidTargets_InvalidTable : PySem.W.subIn K (.ref C_InvalidTargets) (.ref C_InvalidTable) = some false)
    (n_InvalidTargets_index : PySem.W.findIn K (.ref C_InvalidTargets) "index" = some none)
    (xl_InvalidSeat : K.lookup C_InvalidSeat = some (excClassObj nm_InvalidSeat q_InvalidSeat C_InvalidSeat N_InvalidSeat bs_InvalidSeat [.ref B_InvalidSeat, .type "ValueError", .type "Exception", .type "BaseException", .type "object"] true sn_InvalidSeat sub_InvalidSeat ab_InvalidSeat col_InvalidSeat dd_InvalidSeat m0_InvalidSeat m1_InvalidSeat m2_InvalidSeat m3_InvalidSeat m5_InvalidSeat "ValueError.__new__"))
    (sa_InvalidSeat : PySem.W.findIn K (.ref C_InvalidSeat) "__setattr__" = some (some (.builtin "object.__setattr__")))
    (ga_InvalidSeat : PySem.W.findIn K (.ref C_InvalidSeat) "__getattribute__" = some (some (.builtin "BaseException.__getattribute__")))
    (gg_InvalidSeat : PySem.W.findIn K (.ref C_InvalidSeat) "__getattr__" = some none)
    (ti_InvalidSeat : PySem.W.typeIn K (.ref f3) = some (.type "function"))
    (kc_InvalidSeat : PySem.W.keepIn K (.ref C_InvalidSeat) = true)
    (ex_InvalidSeat : PySem.W.subIn K (.ref C_InvalidSeat) (.type "BaseException") = some true)
    (ty_InvalidSeat : PySem.W.typeIn K (.ref C_InvalidSeat) = some (.type "type"))
    (hd_InvalidSeat : PySem.W.hasDictIn K C_InvalidSeat = true)
    (il_InvalidSeat : PySem.W.isClsIn K C_InvalidSeat = true)
    (ss_InvalidSeat : PySem.W.subIn K (.ref C_InvalidSeat) (.ref C_InvalidSeat) = some true)
    (ss_InvalidSeat_SeatError : PySem.W.subIn K (.ref C_InvalidSeat) (.ref C_SeatError) = some true)
    (so_InvalidSeat_InvalidTable : PySem.W.subIn K (.ref C_InvalidSeat) (.ref C_InvalidTable) = some false)
    (so_InvalidSeat_InvalidTargets : PySem.W.subIn K (.ref C_InvalidSeat) (.ref C_InvalidTargets) = some false)
    (n_InvalidSeat_seat : PySem.W.findIn K (.ref C_InvalidSeat) "seat" = some none)
    (xl_InvalidMoves : K.lookup C_InvalidMoves = some (excClassObj nm_InvalidMoves q_InvalidMoves C_InvalidMoves N_InvalidMoves bs_InvalidMoves [.ref B_InvalidMoves, .type "ValueError", .type "Exception", .type "BaseException", .type "object"] true sn_InvalidMoves sub_InvalidMoves ab_InvalidMoves col_InvalidMoves dd_InvalidMoves m0_InvalidMoves m1_InvalidMoves m2_InvalidMoves m3_InvalidMoves m5_InvalidMoves "ValueError.__new__"))
    (sa_InvalidMoves : PySem.W.findIn K (.ref C_InvalidMoves) "__setattr__" = some (some (.builtin "object.__setattr__")))
    (ga_InvalidMoves : PySem.W.findIn K (.ref C_InvalidMoves) "__getattribute__" = some (some (.builtin "BaseException.__getattribute__")))
    (gg_InvalidMoves : PySem.W.findIn K (.ref C_InvalidMoves) "__getattr__" = some none)
    (ti_InvalidMoves : PySem.W.typeIn K (.ref f4) = some (.type "function"))
    (kc_InvalidMoves : PySem.W.keepIn K (.ref C_InvalidMoves) = true)
    (ex_InvalidMoves : PySem.W.subIn K (.ref C_InvalidMoves) (.type "BaseException") = some true)
    (ty_InvalidMoves : PySem.W.typeIn K (.ref C_InvalidMoves) = some (.type "type"))
    (hd_InvalidMoves : PySem.W.hasDictIn K C_InvalidMoves = true)
    (il_InvalidMoves : PySem.W.isClsIn K C_InvalidMoves = true)
    (ss_InvalidMoves : PySem.W.subIn K (.ref C_InvalidMoves) (.ref C_InvalidMoves) = some true)
    (ss_InvalidMoves_SeatError : PySem.W.subIn K (.ref C_InvalidMoves) (.ref C_SeatError) = some true)
    (so_InvalidMoves_InvalidTable : PySem.W.subIn K (.ref C_InvalidMoves) (.ref C_InvalidTable) = some false)
    (so_InvalidMoves_InvalidTargets : PySem.W.subIn K (.ref C_InvalidMoves) (.ref C_InvalidTargets) = some false)
    (so_InvalidMoves_InvalidSeat : PySem.W.subIn K (.ref C_InvalidMoves) (.ref C_InvalidSeat) = some false)
    (n_InvalidMoves_index : PySem.W.findIn K (.ref C_InvalidMoves) "index" = some none)
    (xl_TooLarge : K.lookup C_TooLarge = some (excClassObj nm_TooLarge q_TooLarge C_TooLarge N_TooLarge bs_TooLarge [.ref B_TooLarge, .type "ValueError", .type "Exception", .type "BaseException", .type "object"] true sn_TooLarge sub_TooLarge ab_TooLarge col_TooLarge dd_TooLarge m0_TooLarge m1_TooLarge m2_TooLarge m3_TooLarge m5_TooLarge "ValueError.__new__"))
    (sa_TooLarge : PySem.W.findIn K (.ref C_TooLarge) "__setattr__" = some (some (.builtin "object.__setattr__")))
    (ga_TooLarge : PySem.W.findIn K (.ref C_TooLarge) "__getattribute__" = some (some (.builtin "BaseException.__getattribute__")))
    (gg_TooLarge : PySem.W.findIn K (.ref C_TooLarge) "__getattr__" = some none)
    (ti_TooLarge : PySem.W.typeIn K (.ref f5) = some (.type "function"))
    (kc_TooLarge : PySem.W.keepIn K (.ref C_TooLarge) = true)
    (ex_TooLarge : PySem.W.subIn K (.ref C_TooLarge) (.type "BaseException") = some true)
    (ty_TooLarge : PySem.W.typeIn K (.ref C_TooLarge) = some (.type "type"))
    (hd_TooLarge : PySem.W.hasDictIn K C_TooLarge = true)
    (il_TooLarge : PySem.W.isClsIn K C_TooLarge = true)
    (ss_TooLarge : PySem.W.subIn K (.ref C_TooLarge) (.ref C_TooLarge) = some true)
    (ss_TooLarge_SeatError : PySem.W.subIn K (.ref C_TooLarge) (.ref C_SeatError) = some true)
    (so_TooLarge_InvalidTable : PySem.W.subIn K (.ref C_TooLarge) (.ref C_InvalidTable) = some false)
    (so_TooLarge_InvalidTargets : PySem.W.subIn K (.ref C_TooLarge) (.ref C_InvalidTargets) = some false)
    (so_TooLarge_InvalidSeat : PySem.W.subIn K (.ref C_TooLarge) (.ref C_InvalidSeat) = some false)
    (so_TooLarge_InvalidMoves : PySem.W.subIn K (.ref C_TooLarge) (.ref C_InvalidMoves) = some false)
    (n_TooLarge_limit : PySem.W.findIn K (.ref C_TooLarge) "limit" = some none)
    (pg_Table : PySem.W.plainGet K C_Table Str.empty = true)
    (hd_Table : PySem.W.hasDictIn K C_Table = true)
    (po_Table : PySem.W.plainOver K C_Table = true)
    (sa_Table : PySem.W.findIn K (.ref C_Table) "__setattr__" = some (some (.builtin "object.__setattr__")))
    (mk_Table : PySem.W.makesIn K C_Table = true)
    (kc_Table : PySem.W.keepIn K (.ref C_Table) = true)
    (n_Table_rings : PySem.W.findIn K (.ref C_Table) "rings" = some none)
    (ic_Table : PySem.W.findIn K (.ref C_Table) "__class__" = some (some (.builtin "object.__class__")))
    (im_Table : PySem.W.mroIn K C_Table (.type "object") = some true)
    (pg_Record : PySem.W.plainGet K C_Record Str.empty = true)
    (hd_Record : PySem.W.hasDictIn K C_Record = true)
    (po_Record : PySem.W.plainOver K C_Record = true)
    (sa_Record : PySem.W.findIn K (.ref C_Record) "__setattr__" = some (some (.builtin "object.__setattr__")))
    (mk_Record : PySem.W.makesIn K C_Record = true)
    (kc_Record : PySem.W.keepIn K (.ref C_Record) = true)
    (n_Record_visited : PySem.W.findIn K (.ref C_Record) "visited" = some none)
    (n_Record_table : PySem.W.findIn K (.ref C_Record) "table" = some none)
    (n_Record_goals : PySem.W.findIn K (.ref C_Record) "goals" = some none)
    (n_Record_played : PySem.W.findIn K (.ref C_Record) "played" = some none)
    (ig_ : PySem.W.specialIn K (.builtin "object.__class__") "__get__" = some (some (.builtin "getset_descriptor.__get__")))
    (it_ : PySem.W.takesIn K (.builtin "object.__class__") = some true)
    (ki_list_Table : PySem.W.kitAny K (.type "list") [.ref C_Table] = some false)
    (ki_tuple_Table : PySem.W.kitAny K (.type "tuple") [.ref C_Table] = some false)
    (ki_int_Table : PySem.W.kitAny K (.type "int") [.ref C_Table] = some false)
    (ki_bool_Table : PySem.W.kitAny K (.type "bool") [.ref C_Table] = some false)
    (ki_str_Table : PySem.W.kitAny K (.type "str") [.ref C_Table] = some false)
    (ki_dict_Table : PySem.W.kitAny K (.type "dict") [.ref C_Table] = some false)
    (ki_NoneType_Table : PySem.W.kitAny K (.type "NoneType") [.ref C_Table] = some false)
    (v_MAX_RINGS : PySem.W.nsIn K mainGlobals "MAX_RINGS" = some (some (.int 4 t_MAX_RINGS)))
    (v_SMALL : PySem.W.nsIn K mainGlobals "SMALL" = some (some (.int 300 t_SMALL)))
    (z_abs : PySem.W.nsIn K mainGlobals "abs" = some none)
    (z_all : PySem.W.nsIn K mainGlobals "all" = some none)
    (z_any : PySem.W.nsIn K mainGlobals "any" = some none)
    (z_bool : PySem.W.nsIn K mainGlobals "bool" = some none)
    (z_enumerate : PySem.W.nsIn K mainGlobals "enumerate" = some none)
    (z_int : PySem.W.nsIn K mainGlobals "int" = some none)
    (z_isinstance : PySem.W.nsIn K mainGlobals "isinstance" = some none)
    (z_len : PySem.W.nsIn K mainGlobals "len" = some none)
    (z_list : PySem.W.nsIn K mainGlobals "list" = some none)
    (z_max : PySem.W.nsIn K mainGlobals "max" = some none)
    (z_range : PySem.W.nsIn K mainGlobals "range" = some none)
    (z_repr : PySem.W.nsIn K mainGlobals "repr" = some none)
    (z_str : PySem.W.nsIn K mainGlobals "str" = some none)
    (z_sum : PySem.W.nsIn K mainGlobals "sum" = some none)
    (z_tuple : PySem.W.nsIn K mainGlobals "tuple" = some none)
    (z_zip : PySem.W.nsIn K mainGlobals "zip" = some none)
    : ∃ T : TX K mg, T.f_law = f62 ∧ T.fd_law = PySem.W.fnOf "law" "law" (defArgs s_law) (defBody s_law) (defScope s_law) .none kV62 dc62 pm62 an62 cd62 ct62 := by
  have F0 := fun_mk (st := s_wall) l0 c0 k0
  have b0 := F0.binds (ps := ["k"]) fun _ _ _ _ _ _ us hl => match us, hl with | [_], _ => rfl
  have F1 := fun_mk (st := s_InvalidTable_init) l1 c1 k1
  have b1 := F1.binds (ps := ["self", "rings"]) fun _ _ _ _ _ _ us hl => match us, hl with | [_, _], _ => rfl
  have F2 := fun_mk (st := s_InvalidTargets_init) l2 c2 k2
  have b2 := F2.binds (ps := ["self", "index"]) fun _ _ _ _ _ _ us hl => match us, hl with | [_, _], _ => rfl
  have F3 := fun_mk (st := s_InvalidSeat_init) l3 c3 k3
  have b3 := F3.binds (ps := ["self", "seat"]) fun _ _ _ _ _ _ us hl => match us, hl with | [_, _], _ => rfl
  have F4 := fun_mk (st := s_InvalidMoves_init) l4 c4 k4
  have b4 := F4.binds (ps := ["self", "index"]) fun _ _ _ _ _ _ us hl => match us, hl with | [_, _], _ => rfl
  have F5 := fun_mk (st := s_TooLarge_init) l5 c5 k5
  have b5 := F5.binds (ps := ["self", "limit"]) fun _ _ _ _ _ _ us hl => match us, hl with | [_, _], _ => rfl
  have F6 := fun_mk (st := s_is_integer) l6 c6 k6
  have b6 := F6.binds (ps := ["value"]) fun _ _ _ _ _ _ us hl => match us, hl with | [_], _ => rfl
  have F7 := fun_mk (st := s_is_at_least) l7 c7 k7
  have b7 := F7.binds (ps := ["value", "low"]) fun _ _ _ _ _ _ us hl => match us, hl with | [_, _], _ => rfl
  have F8 := fun_mk (st := s_is_between) l8 c8 k8
  have b8 := F8.binds (ps := ["value", "low", "high"]) fun _ _ _ _ _ _ us hl => match us, hl with | [_, _, _], _ => rfl
  have F9 := fun_mk (st := s_greatest_common_divisor) l9 c9 k9
  have b9 := F9.binds (ps := ["first", "second"]) fun _ _ _ _ _ _ us hl => match us, hl with | [_, _], _ => rfl
  have F10 := fun_mk (st := s_Table_init) l10 c10 k10
  have b10 := F10.binds (ps := ["self", "rings"]) fun _ _ _ _ _ _ us hl => match us, hl with | [_, _], _ => rfl
  have F11 := fun_mk (st := s_Table_sizes) l11 c11 k11
  have b11 := F11.binds (ps := ["self"]) fun _ _ _ _ _ _ us hl => match us, hl with | [_], _ => rfl
  have F12 := fun_mk (st := s_Table_count) l12 c12 k12
  have b12 := F12.binds (ps := ["self"]) fun _ _ _ _ _ _ us hl => match us, hl with | [_], _ => rfl
  have F13 := fun_mk (st := s_Table_is_seat) l13 c13 k13
  have b13 := F13.binds (ps := ["self", "value"]) fun _ _ _ _ _ _ us hl => match us, hl with | [_, _], _ => rfl
  have F14 := fun_mk (st := s_Table_is_call) l14 c14 k14
  have b14 := F14.binds (ps := ["self", "value"]) fun _ _ _ _ _ _ us hl => match us, hl with | [_, _], _ => rfl
  have F15 := fun_mk (st := s_Table_shifted) l15 c15 k15
  have b15 := F15.binds (ps := ["self", "seat", "call", "factor"]) fun _ _ _ _ _ _ us hl => match us, hl with | [_, _, _, _], _ => rfl
  have F16 := fun_mk (st := s_Table_moves) l16 c16 k16
  have b16 := F16.binds (ps := ["self", "seat", "call"]) fun _ _ _ _ _ _ us hl => match us, hl with | [_, _, _], _ => rfl
  have F17 := fun_mk (st := s_Table_step) l17 c17 k17
  have b17 := F17.binds (ps := ["self", "seat", "call", "direction"]) fun _ _ _ _ _ _ us hl => match us, hl with | [_, _, _, _], _ => rfl
  have F18 := fun_mk (st := s_Table_order) l18 c18 k18
  have b18 := F18.binds (ps := ["self", "seat"]) fun _ _ _ _ _ _ us hl => match us, hl with | [_, _], _ => rfl
  have F19 := fun_mk (st := s_Table_halves) l19 c19 k19
  have b19 := F19.binds (ps := ["self", "seat"]) fun _ _ _ _ _ _ us hl => match us, hl with | [_, _], _ => rfl
  have F20 := fun_mk (st := s_is_direction) l20 c20 k20
  have b20 := F20.binds (ps := ["value"]) fun _ _ _ _ _ _ us hl => match us, hl with | [_], _ => rfl
  have F21 := fun_mk (st := s_require_table) l21 c21 k21
  have b21 := F21.binds (ps := ["table"]) fun _ _ _ _ _ _ us hl => match us, hl with | [_], _ => rfl
  have F22 := fun_mk (st := s_require_seat) l22 c22 k22
  have b22 := F22.binds (ps := ["table", "seat"]) fun _ _ _ _ _ _ us hl => match us, hl with | [_, _], _ => rfl
  have F23 := fun_mk (st := s_require_call) l23 c23 k23
  have b23 := F23.binds (ps := ["table", "call"]) fun _ _ _ _ _ _ us hl => match us, hl with | [_, _], _ => rfl
  have F24 := fun_mk (st := s_require_targets) l24 c24 k24
  have b24 := F24.binds (ps := ["table", "targets"]) fun _ _ _ _ _ _ us hl => match us, hl with | [_, _], _ => rfl
  have F25 := fun_mk (st := s_require_small) l25 c25 k25
  have b25 := F25.binds (ps := ["table"]) fun _ _ _ _ _ _ us hl => match us, hl with | [_], _ => rfl
  have F26 := fun_mk (st := s_all_seats) l26 c26 k26
  have b26 := F26.binds (ps := ["table"]) fun _ _ _ _ _ _ us hl => match us, hl with | [_], _ => rfl
  have F27 := fun_mk (st := s_mirror_seat) l27 c27 k27
  have b27 := F27.binds (ps := ["table", "seat", "other"]) fun _ _ _ _ _ _ us hl => match us, hl with | [_, _, _], _ => rfl
  have F28 := fun_mk (st := s_call_counts) l28 c28 k28
  have b28 := F28.binds (ps := ["table", "targets"]) fun _ _ _ _ _ _ us hl => match us, hl with | [_, _], _ => rfl
  have F29 := fun_mk (st := s_weighted) l29 c29 k29
  have b29 := F29.binds (ps := ["modulus", "weights", "seat"]) fun _ _ _ _ _ _ us hl => match us, hl with | [_, _, _], _ => rfl
  have F30 := fun_mk (st := s_is_move) l30 c30 k30
  have b30 := F30.binds (ps := ["table", "value"]) fun _ _ _ _ _ _ us hl => match us, hl with | [_, _], _ => rfl
  have F31 := fun_mk (st := s_require_moves) l31 c31 k31
  have b31 := F31.binds (ps := ["table", "moves"]) fun _ _ _ _ _ _ us hl => match us, hl with | [_, _], _ => rfl
  have F32 := fun_mk (st := s_visited_seats) l32 c32 k32
  have b32 := F32.binds (ps := ["table", "seat", "moves"]) fun _ _ _ _ _ _ us hl => match us, hl with | [_, _, _], _ => rfl
  have F33 := fun_mk (st := s_larger) l33 c33 k33
  have b33 := F33.binds (ps := ["first", "second"]) fun _ _ _ _ _ _ us hl => match us, hl with | [_, _], _ => rfl
  have F34 := fun_mk (st := s_caller_loss) l34 c34 k34
  have b34 := F34.binds (ps := ["depth", "worst"]) fun _ _ _ _ _ _ us hl => match us, hl with | [_, _], _ => rfl
  have F35 := fun_mk (st := s_responder_loss) l35 c35 k35
  have b35 := F35.binds (ps := ["worst", "depth"]) fun _ _ _ _ _ _ us hl => match us, hl with | [_, _], _ => rfl
  have F36 := fun_mk (st := s_Record_init) l36 c36 k36
  have b36 := F36.binds (ps := ["self", "table", "targets", "seat", "moves"]) fun _ _ _ _ _ _ us hl => match us, hl with | [_, _, _, _, _], _ => rfl
  have F37 := fun_mk (st := s_Record_seats) l37 c37 k37
  have b37 := F37.binds (ps := ["self"]) fun _ _ _ _ _ _ us hl => match us, hl with | [_], _ => rfl
  have F38 := fun_mk (st := s_Record_calls_to_target) l38 c38 k38
  have b38 := F38.binds (ps := ["self"]) fun _ _ _ _ _ _ us hl => match us, hl with | [_], _ => rfl
  have F39 := fun_mk (st := s_Record_losses) l39 c39 k39
  have b39 := F39.binds (ps := ["self"]) fun _ _ _ _ _ _ us hl => match us, hl with | [_], _ => rfl
  have F40 := fun_mk (st := s_Record_first_mistake) l40 c40 k40
  have b40 := F40.binds (ps := ["self"]) fun _ _ _ _ _ _ us hl => match us, hl with | [_], _ => rfl
  have F41 := fun_mk (st := s_common_exponent) l41 c41 k41
  have b41 := F41.binds (ps := ["sizes"]) fun _ _ _ _ _ _ us hl => match us, hl with | [_], _ => rfl
  have F42 := fun_mk (st := s_weight_rows) l42 c42 k42
  have b42 := F42.binds (ps := ["sizes", "modulus"]) fun _ _ _ _ _ _ us hl => match us, hl with | [_, _], _ => rfl
  have F43 := fun_mk (st := s_units_of) l43 c43 k43
  have b43 := F43.binds (ps := ["modulus"]) fun _ _ _ _ _ _ us hl => match us, hl with | [_], _ => rfl
  have F44 := fun_mk (st := s_is_canonical) l44 c44 k44
  have b44 := F44.binds (ps := ["modulus", "units", "weights"]) fun _ _ _ _ _ _ us hl => match us, hl with | [_, _, _], _ => rfl
  have F45 := fun_mk (st := s_explains) l45 c45 k45
  have b45 := F45.binds (ps := ["table", "visited", "moves", "witness"]) fun _ _ _ _ _ _ us hl => match us, hl with | [_, _, _, _], _ => rfl
  have F46 := fun_mk (st := s_consistent_witnesses) l46 c46 k46
  have b46 := F46.binds (ps := ["table", "seat", "moves"]) fun _ _ _ _ _ _ us hl => match us, hl with | [_, _, _], _ => rfl
  have F47 := fun_mk (st := s_law_mixed) l47 c47 k47
  have b47 := F47.binds (ps := ["_law_cell", "_law_k"]) fun _ _ _ _ _ _ us hl => match us, hl with | [_, _], _ => rfl
  have F48 := fun_mk (st := s_law_source) l48 c48 k48
  have b48 := F48.binds (ps := ["_law_cell"]) fun _ _ _ _ _ _ us hl => match us, hl with | [_], _ => rfl
  have F49 := fun_mk (st := s_law_take) l49 c49 k49
  have b49 := F49.binds (ps := ["_law_source_here", "_law_many"]) fun _ _ _ _ _ _ us hl => match us, hl with | [_, _], _ => rfl
  have F50 := fun_mk (st := s_law_one) l50 c50 k50
  have b50 := F50.binds (ps := ["_law_source_here", "_law_some"]) fun _ _ _ _ _ _ us hl => match us, hl with | [_, _], _ => rfl
  have F51 := fun_mk (st := s_law_rings) l51 c51 k51
  have b51 := F51.binds (ps := ["_law_source_here", "_law_limit"]) fun _ _ _ _ _ _ us hl => match us, hl with | [_, _], _ => rfl
  have F52 := fun_mk (st := s_law_seat) l52 c52 k52
  have b52 := F52.binds (ps := ["_law_source_here", "_law_rings_here"]) fun _ _ _ _ _ _ us hl => match us, hl with | [_, _], _ => rfl
  have F53 := fun_mk (st := s_law_seats) l53 c53 k53
  have b53 := F53.binds (ps := ["_law_source_here", "_law_rings_here", "_law_most"]) fun _ _ _ _ _ _ us hl => match us, hl with | [_, _, _], _ => rfl
  have F54 := fun_mk (st := s_law_call) l54 c54 k54
  have b54 := F54.binds (ps := ["_law_source_here", "_law_rings_here"]) fun _ _ _ _ _ _ us hl => match us, hl with | [_, _], _ => rfl
  have F55 := fun_mk (st := s_law_moves) l55 c55 k55
  have b55 := F55.binds (ps := ["_law_source_here", "_law_rings_here", "_law_most"]) fun _ _ _ _ _ _ us hl => match us, hl with | [_, _, _], _ => rfl
  have F56 := fun_mk (st := s_law_raised) l56 c56 k56
  have b56 := F56.binds (ps := ["_law_ask"]) fun _ _ _ _ _ _ us hl => match us, hl with | [_], _ => rfl
  have F57 := fun_mk (st := s_law_bad_seat) l57 c57 k57
  have b57 := F57.binds (ps := ["_law_source_here", "_law_rings_here"]) fun _ _ _ _ _ _ us hl => match us, hl with | [_, _], _ => rfl
  have F58 := fun_mk (st := s_law_bad_targets) l58 c58 k58
  have b58 := F58.binds (ps := ["_law_source_here", "_law_rings_here"]) fun _ _ _ _ _ _ us hl => match us, hl with | [_, _], _ => rfl
  have F59 := fun_mk (st := s_law_bad_move) l59 c59 k59
  have b59 := F59.binds (ps := ["_law_source_here", "_law_rings_here"]) fun _ _ _ _ _ _ us hl => match us, hl with | [_, _], _ => rfl
  have F60 := fun_mk (st := s_law_right) l60 c60 k60
  have b60 := F60.binds (ps := ["_law_source_here", "_law_rings_here"]) fun _ _ _ _ _ _ us hl => match us, hl with | [_, _], _ => rfl
  have F61 := fun_mk (st := s_law_large_right) l61 c61 k61
  have b61 := F61.binds (ps := ["_law_source_here", "_law_rings_here"]) fun _ _ _ _ _ _ us hl => match us, hl with | [_, _], _ => rfl
  have F62 := fun_mk (st := s_law) l62 c62 k62
  have b62 := F62.binds (ps := ["_law_script"]) fun _ _ _ _ _ _ us hl => match us, hl with | [_], _ => rfl
  exact ⟨{
    f_wall := f0, fd_wall := _, F_wall := F0, b_wall := b0, m_wall := PySem.W.mg_of X G a0,
    f_InvalidTable_init := f1, fd_InvalidTable_init := _, F_InvalidTable_init := F1, b_InvalidTable_init := b1,
    f_InvalidTargets_init := f2, fd_InvalidTargets_init := _, F_InvalidTargets_init := F2, b_InvalidTargets_init := b2,
    f_InvalidSeat_init := f3, fd_InvalidSeat_init := _, F_InvalidSeat_init := F3, b_InvalidSeat_init := b3,
    f_InvalidMoves_init := f4, fd_InvalidMoves_init := _, F_InvalidMoves_init := F4, b_InvalidMoves_init := b4,
    f_TooLarge_init := f5, fd_TooLarge_init := _, F_TooLarge_init := F5, b_TooLarge_init := b5,
    f_is_integer := f6, fd_is_integer := _, F_is_integer := F6, b_is_integer := b6, m_is_integer := PySem.W.mg_of X G a6,
    f_is_at_least := f7, fd_is_at_least := _, F_is_at_least := F7, b_is_at_least := b7, m_is_at_least := PySem.W.mg_of X G a7,
    f_is_between := f8, fd_is_between := _, F_is_between := F8, b_is_between := b8, m_is_between := PySem.W.mg_of X G a8,
    f_greatest_common_divisor := f9, fd_greatest_common_divisor := _, F_greatest_common_divisor := F9, b_greatest_common_divisor := b9, m_greatest_common_divisor := PySem.W.mg_of X G a9,
    f_Table_init := f10, fd_Table_init := _, F_Table_init := F10, b_Table_init := b10,
    f_Table_sizes := f11, fd_Table_sizes := _, F_Table_sizes := F11, b_Table_sizes := b11,
    f_Table_count := f12, fd_Table_count := _, F_Table_count := F12, b_Table_count := b12,
    f_Table_is_seat := f13, fd_Table_is_seat := _, F_Table_is_seat := F13, b_Table_is_seat := b13,
    f_Table_is_call := f14, fd_Table_is_call := _, F_Table_is_call := F14, b_Table_is_call := b14,
    f_Table_shifted := f15, fd_Table_shifted := _, F_Table_shifted := F15, b_Table_shifted := b15,
    f_Table_moves := f16, fd_Table_moves := _, F_Table_moves := F16, b_Table_moves := b16,
    f_Table_step := f17, fd_Table_step := _, F_Table_step := F17, b_Table_step := b17,
    f_Table_order := f18, fd_Table_order := _, F_Table_order := F18, b_Table_order := b18,
    f_Table_halves := f19, fd_Table_halves := _, F_Table_halves := F19, b_Table_halves := b19,
    f_is_direction := f20, fd_is_direction := _, F_is_direction := F20, b_is_direction := b20, m_is_direction := PySem.W.mg_of X G a20,
    f_require_table := f21, fd_require_table := _, F_require_table := F21, b_require_table := b21, m_require_table := PySem.W.mg_of X G a21,
    f_require_seat := f22, fd_require_seat := _, F_require_seat := F22, b_require_seat := b22, m_require_seat := PySem.W.mg_of X G a22,
    f_require_call := f23, fd_require_call := _, F_require_call := F23, b_require_call := b23, m_require_call := PySem.W.mg_of X G a23,
    f_require_targets := f24, fd_require_targets := _, F_require_targets := F24, b_require_targets := b24, m_require_targets := PySem.W.mg_of X G a24,
    f_require_small := f25, fd_require_small := _, F_require_small := F25, b_require_small := b25, m_require_small := PySem.W.mg_of X G a25,
    f_all_seats := f26, fd_all_seats := _, F_all_seats := F26, b_all_seats := b26, m_all_seats := PySem.W.mg_of X G a26,
    f_mirror_seat := f27, fd_mirror_seat := _, F_mirror_seat := F27, b_mirror_seat := b27, m_mirror_seat := PySem.W.mg_of X G a27,
    f_call_counts := f28, fd_call_counts := _, F_call_counts := F28, b_call_counts := b28, m_call_counts := PySem.W.mg_of X G a28,
    f_weighted := f29, fd_weighted := _, F_weighted := F29, b_weighted := b29, m_weighted := PySem.W.mg_of X G a29,
    f_is_move := f30, fd_is_move := _, F_is_move := F30, b_is_move := b30, m_is_move := PySem.W.mg_of X G a30,
    f_require_moves := f31, fd_require_moves := _, F_require_moves := F31, b_require_moves := b31, m_require_moves := PySem.W.mg_of X G a31,
    f_visited_seats := f32, fd_visited_seats := _, F_visited_seats := F32, b_visited_seats := b32, m_visited_seats := PySem.W.mg_of X G a32,
    f_larger := f33, fd_larger := _, F_larger := F33, b_larger := b33, m_larger := PySem.W.mg_of X G a33,
    f_caller_loss := f34, fd_caller_loss := _, F_caller_loss := F34, b_caller_loss := b34, m_caller_loss := PySem.W.mg_of X G a34,
    f_responder_loss := f35, fd_responder_loss := _, F_responder_loss := F35, b_responder_loss := b35, m_responder_loss := PySem.W.mg_of X G a35,
    f_Record_init := f36, fd_Record_init := _, F_Record_init := F36, b_Record_init := b36,
    f_Record_seats := f37, fd_Record_seats := _, F_Record_seats := F37, b_Record_seats := b37,
    f_Record_calls_to_target := f38, fd_Record_calls_to_target := _, F_Record_calls_to_target := F38, b_Record_calls_to_target := b38,
    f_Record_losses := f39, fd_Record_losses := _, F_Record_losses := F39, b_Record_losses := b39,
    f_Record_first_mistake := f40, fd_Record_first_mistake := _, F_Record_first_mistake := F40, b_Record_first_mistake := b40,
    f_common_exponent := f41, fd_common_exponent := _, F_common_exponent := F41, b_common_exponent := b41, m_common_exponent := PySem.W.mg_of X G a41,
    f_weight_rows := f42, fd_weight_rows := _, F_weight_rows := F42, b_weight_rows := b42, m_weight_rows := PySem.W.mg_of X G a42,
    f_units_of := f43, fd_units_of := _, F_units_of := F43, b_units_of := b43, m_units_of := PySem.W.mg_of X G a43,
    f_is_canonical := f44, fd_is_canonical := _, F_is_canonical := F44, b_is_canonical := b44, m_is_canonical := PySem.W.mg_of X G a44,
    f_explains := f45, fd_explains := _, F_explains := F45, b_explains := b45, m_explains := PySem.W.mg_of X G a45,
    f_consistent_witnesses := f46, fd_consistent_witnesses := _, F_consistent_witnesses := F46, b_consistent_witnesses := b46, m_consistent_witnesses := PySem.W.mg_of X G a46,
    f_law_mixed := f47, fd_law_mixed := _, F_law_mixed := F47, b_law_mixed := b47, m_law_mixed := PySem.W.mg_of X G a47,
    f_law_source := f48, fd_law_source := _, F_law_source := F48, b_law_source := b48, m_law_source := PySem.W.mg_of X G a48,
    f_law_take := f49, fd_law_take := _, F_law_take := F49, b_law_take := b49, m_law_take := PySem.W.mg_of X G a49,
    f_law_one := f50, fd_law_one := _, F_law_one := F50, b_law_one := b50, m_law_one := PySem.W.mg_of X G a50,
    f_law_rings := f51, fd_law_rings := _, F_law_rings := F51, b_law_rings := b51, m_law_rings := PySem.W.mg_of X G a51,
    f_law_seat := f52, fd_law_seat := _, F_law_seat := F52, b_law_seat := b52, m_law_seat := PySem.W.mg_of X G a52,
    f_law_seats := f53, fd_law_seats := _, F_law_seats := F53, b_law_seats := b53, m_law_seats := PySem.W.mg_of X G a53,
    f_law_call := f54, fd_law_call := _, F_law_call := F54, b_law_call := b54, m_law_call := PySem.W.mg_of X G a54,
    f_law_moves := f55, fd_law_moves := _, F_law_moves := F55, b_law_moves := b55, m_law_moves := PySem.W.mg_of X G a55,
    f_law_raised := f56, fd_law_raised := _, F_law_raised := F56, b_law_raised := b56, m_law_raised := PySem.W.mg_of X G a56,
    f_law_bad_seat := f57, fd_law_bad_seat := _, F_law_bad_seat := F57, b_law_bad_seat := b57, m_law_bad_seat := PySem.W.mg_of X G a57,
    f_law_bad_targets := f58, fd_law_bad_targets := _, F_law_bad_targets := F58, b_law_bad_targets := b58, m_law_bad_targets := PySem.W.mg_of X G a58,
    f_law_bad_move := f59, fd_law_bad_move := _, F_law_bad_move := F59, b_law_bad_move := b59, m_law_bad_move := PySem.W.mg_of X G a59,
    f_law_right := f60, fd_law_right := _, F_law_right := F60, b_law_right := b60, m_law_right := PySem.W.mg_of X G a60,
    f_law_large_right := f61, fd_law_large_right := _, F_law_large_right := F61, b_law_large_right := b61, m_law_large_right := PySem.W.mg_of X G a61,
    f_law := f62, fd_law := _, F_law := F62, b_law := b62, m_law := PySem.W.mg_of X G a62,
    C_SeatError := C_SeatError, m_SeatError := PySem.W.mg_of X G aC_SeatError,
    C_InvalidTable := C_InvalidTable, m_InvalidTable := PySem.W.mg_of X G aC_InvalidTable, ox_InvalidTable := ⟨⟨nm_InvalidTable, q_InvalidTable, N_InvalidTable, bs_InvalidTable, _, sn_InvalidTable, sub_InvalidTable, ab_InvalidTable, col_InvalidTable, dd_InvalidTable, m0_InvalidTable, m1_InvalidTable, m2_InvalidTable, m3_InvalidTable, m5_InvalidTable, xl_InvalidTable, by rfl⟩, sa_InvalidTable, ex_InvalidTable, ty_InvalidTable, kc_InvalidTable⟩, xf_InvalidTable := ⟨ga_InvalidTable, gg_InvalidTable, ex_InvalidTable, hd_InvalidTable⟩, i_InvalidTable := a1, ti_InvalidTable := ti_InvalidTable, em_InvalidTable := exm_self ex_InvalidTable il_InvalidTable ty_InvalidTable ss_InvalidTable,
    em_InvalidTable_SeatError := exm_base ex_SeatError il_SeatError ty_SeatError ss_InvalidTable_SeatError,
    n_InvalidTable_rings := n_InvalidTable_rings,
    C_InvalidTargets := C_InvalidTargets, m_InvalidTargets := PySem.W.mg_of X G aC_InvalidTargets, ox_InvalidTargets := ⟨⟨nm_InvalidTargets, q_InvalidTargets, N_InvalidTargets, bs_InvalidTargets, _, sn_InvalidTargets, sub_InvalidTargets, ab_InvalidTargets, col_InvalidTargets, dd_InvalidTargets, m0_InvalidTargets, m1_InvalidTargets, m2_InvalidTargets, m3_InvalidTargets, m5_InvalidTargets, xl_InvalidTargets, by rfl⟩, sa_InvalidTargets, ex_InvalidTargets, ty_InvalidTargets, kc_InvalidTargets⟩, xf_InvalidTargets := ⟨ga_InvalidTargets, gg_InvalidTargets, ex_InvalidTargets, hd_InvalidTargets⟩, i_InvalidTargets := a2, ti_InvalidTargets := ti_InvalidTargets, em_InvalidTargets := exm_self ex_InvalidTargets il_InvalidTargets ty_InvalidTargets ss_InvalidTargets,
    em_InvalidTargets_SeatError := exm_base ex_SeatError il_SeatError ty_SeatError ss_InvalidTargets_SeatError,
    en_InvalidTargets_InvalidTable := exm_no ex_InvalidTable il_InvalidTable ty_InvalidTable so_InvalidTargets_InvalidTable,
    n_InvalidTargets_index := n_InvalidTargets_index,
    C_InvalidSeat := C_InvalidSeat, m_InvalidSeat := PySem.W.mg_of X G aC_InvalidSeat, ox_InvalidSeat := ⟨⟨nm_InvalidSeat, q_InvalidSeat, N_InvalidSeat, bs_InvalidSeat, _, sn_InvalidSeat, sub_InvalidSeat, ab_InvalidSeat, col_InvalidSeat, dd_InvalidSeat, m0_InvalidSeat, m1_InvalidSeat, m2_InvalidSeat, m3_InvalidSeat, m5_InvalidSeat, xl_InvalidSeat, by rfl⟩, sa_InvalidSeat, ex_InvalidSeat, ty_InvalidSeat, kc_InvalidSeat⟩, xf_InvalidSeat := ⟨ga_InvalidSeat, gg_InvalidSeat, ex_InvalidSeat, hd_InvalidSeat⟩, i_InvalidSeat := a3, ti_InvalidSeat := ti_InvalidSeat, em_InvalidSeat := exm_self ex_InvalidSeat il_InvalidSeat ty_InvalidSeat ss_InvalidSeat,
    em_InvalidSeat_SeatError := exm_base ex_SeatError il_SeatError ty_SeatError ss_InvalidSeat_SeatError,
    en_InvalidSeat_InvalidTable := exm_no ex_InvalidTable il_InvalidTable ty_InvalidTable so_InvalidSeat_InvalidTable,
    en_InvalidSeat_InvalidTargets := exm_no ex_InvalidTargets il_InvalidTargets ty_InvalidTargets so_InvalidSeat_InvalidTargets,
    n_InvalidSeat_seat := n_InvalidSeat_seat,
    C_InvalidMoves := C_InvalidMoves, m_InvalidMoves := PySem.W.mg_of X G aC_InvalidMoves, ox_InvalidMoves := ⟨⟨nm_InvalidMoves, q_InvalidMoves, N_InvalidMoves, bs_InvalidMoves, _, sn_InvalidMoves, sub_InvalidMoves, ab_InvalidMoves, col_InvalidMoves, dd_InvalidMoves, m0_InvalidMoves, m1_InvalidMoves, m2_InvalidMoves, m3_InvalidMoves, m5_InvalidMoves, xl_InvalidMoves, by rfl⟩, sa_InvalidMoves, ex_InvalidMoves, ty_InvalidMoves, kc_InvalidMoves⟩, xf_InvalidMoves := ⟨ga_InvalidMoves, gg_InvalidMoves, ex_InvalidMoves, hd_InvalidMoves⟩, i_InvalidMoves := a4, ti_InvalidMoves := ti_InvalidMoves, em_InvalidMoves := exm_self ex_InvalidMoves il_InvalidMoves ty_InvalidMoves ss_InvalidMoves,
    em_InvalidMoves_SeatError := exm_base ex_SeatError il_SeatError ty_SeatError ss_InvalidMoves_SeatError,
    en_InvalidMoves_InvalidTable := exm_no ex_InvalidTable il_InvalidTable ty_InvalidTable so_InvalidMoves_InvalidTable,
    en_InvalidMoves_InvalidTargets := exm_no ex_InvalidTargets il_InvalidTargets ty_InvalidTargets so_InvalidMoves_InvalidTargets,
    en_InvalidMoves_InvalidSeat := exm_no ex_InvalidSeat il_InvalidSeat ty_InvalidSeat so_InvalidMoves_InvalidSeat,
    n_InvalidMoves_index := n_InvalidMoves_index,
    C_TooLarge := C_TooLarge, m_TooLarge := PySem.W.mg_of X G aC_TooLarge, ox_TooLarge := ⟨⟨nm_TooLarge, q_TooLarge, N_TooLarge, bs_TooLarge, _, sn_TooLarge, sub_TooLarge, ab_TooLarge, col_TooLarge, dd_TooLarge, m0_TooLarge, m1_TooLarge, m2_TooLarge, m3_TooLarge, m5_TooLarge, xl_TooLarge, by rfl⟩, sa_TooLarge, ex_TooLarge, ty_TooLarge, kc_TooLarge⟩, xf_TooLarge := ⟨ga_TooLarge, gg_TooLarge, ex_TooLarge, hd_TooLarge⟩, i_TooLarge := a5, ti_TooLarge := ti_TooLarge, em_TooLarge := exm_self ex_TooLarge il_TooLarge ty_TooLarge ss_TooLarge,
    em_TooLarge_SeatError := exm_base ex_SeatError il_SeatError ty_SeatError ss_TooLarge_SeatError,
    en_TooLarge_InvalidTable := exm_no ex_InvalidTable il_InvalidTable ty_InvalidTable so_TooLarge_InvalidTable,
    en_TooLarge_InvalidTargets := exm_no ex_InvalidTargets il_InvalidTargets ty_InvalidTargets so_TooLarge_InvalidTargets,
    en_TooLarge_InvalidSeat := exm_no ex_InvalidSeat il_InvalidSeat ty_InvalidSeat so_TooLarge_InvalidSeat,
    en_TooLarge_InvalidMoves := exm_no ex_InvalidMoves il_InvalidMoves ty_InvalidMoves so_TooLarge_InvalidMoves,
    n_TooLarge_limit := n_TooLarge_limit,
    C_Table := C_Table, cl_Table := ⟨pg_Table, hd_Table, po_Table, sa_Table⟩, m_Table := PySem.W.mg_of X G aC_Table,
    M_Table := ⟨mk_Table, a10, i10, kc_Table⟩,
    me_Table_sizes := ⟨a11, i11, k11⟩,
    me_Table_count := ⟨a12, i12, k12⟩,
    me_Table_is_seat := ⟨a13, i13, k13⟩,
    me_Table_is_call := ⟨a14, i14, k14⟩,
    me_Table_shifted := ⟨a15, i15, k15⟩,
    me_Table_moves := ⟨a16, i16, k16⟩,
    me_Table_step := ⟨a17, i17, k17⟩,
    me_Table_order := ⟨a18, i18, k18⟩,
    me_Table_halves := ⟨a19, i19, k19⟩,
    n_Table_rings := n_Table_rings,
    ic_Table := ic_Table,
    im_Table := im_Table,
    C_Record := C_Record, cl_Record := ⟨pg_Record, hd_Record, po_Record, sa_Record⟩, m_Record := PySem.W.mg_of X G aC_Record,
    M_Record := ⟨mk_Record, a36, i36, kc_Record⟩,
    me_Record_seats := ⟨a37, i37, k37⟩,
    me_Record_calls_to_target := ⟨a38, i38, k38⟩,
    me_Record_losses := ⟨a39, i39, k39⟩,
    me_Record_first_mistake := ⟨a40, i40, k40⟩,
    n_Record_visited := n_Record_visited,
    n_Record_table := n_Record_table,
    n_Record_goals := n_Record_goals,
    n_Record_played := n_Record_played,
    ig_ := ig_,
    it_ := it_,
    ki_list_Table := ki_list_Table,
    ki_tuple_Table := ki_tuple_Table,
    ki_int_Table := ki_int_Table,
    ki_bool_Table := ki_bool_Table,
    ki_str_Table := ki_str_Table,
    ki_dict_Table := ki_dict_Table,
    ki_NoneType_Table := ki_NoneType_Table,
    t_MAX_RINGS := _, c_MAX_RINGS := PySem.W.mg_of X G v_MAX_RINGS,
    t_SMALL := _, c_SMALL := PySem.W.mg_of X G v_SMALL,
    z_abs := PySem.W.mg_none_of X G z_abs,
    z_all := PySem.W.mg_none_of X G z_all,
    z_any := PySem.W.mg_none_of X G z_any,
    z_bool := PySem.W.mg_none_of X G z_bool,
    z_enumerate := PySem.W.mg_none_of X G z_enumerate,
    z_int := PySem.W.mg_none_of X G z_int,
    z_isinstance := PySem.W.mg_none_of X G z_isinstance,
    z_len := PySem.W.mg_none_of X G z_len,
    z_list := PySem.W.mg_none_of X G z_list,
    z_max := PySem.W.mg_none_of X G z_max,
    z_range := PySem.W.mg_none_of X G z_range,
    z_repr := PySem.W.mg_none_of X G z_repr,
    z_str := PySem.W.mg_none_of X G z_str,
    z_sum := PySem.W.mg_none_of X G z_sum,
    z_tuple := PySem.W.mg_none_of X G z_tuple,
    z_zip := PySem.W.mg_none_of X G z_zip
  }, rfl, rfl⟩
theorem use_mk {K : PySem.W.Frag} {h : Heap} {mg : Str → Option Value} (X : K.In h) (G : h.Ns mainGlobals mg)
    {f0 f1 f2 f3 f4 f5 f6 f7 f8 f9 f10 f11 f12 f13 f14 f15 f16 f17 f18 f19 f20 f21 f22 f23 f24 f25 f26 f27 f28 f29 f30 f31 f32 f33 f34 f35 f36 f37 f38 f39 f40 f41 f42 f43 f44 f45 f46 f47 f48 f49 f50 f51 f52 f53 f54 f55 f56 f57 f58 f59 f60 f61 f62 C_InvalidTable C_InvalidTargets C_InvalidSeat C_InvalidMoves C_TooLarge C_Table C_Record C_SeatError : Addr}
    {od0 an0 od1 an1 od2 an2 od3 an3 od4 an4 od5 an5 od6 an6 od7 an7 od8 an8 od9 an9 od10 an10 od11 an11 od12 an12 od13 an13 od14 an14 od15 an15 od16 an16 od17 an17 od18 an18 od19 an19 od20 an20 od21 an21 od22 an22 od23 an23 od24 an24 od25 an25 od26 an26 od27 an27 od28 an28 od29 an29 od30 an30 od31 an31 od32 an32 od33 an33 od34 an34 od35 an35 od36 an36 od37 an37 od38 an38 od39 an39 od40 an40 od41 an41 od42 an42 od43 an43 od44 an44 od45 an45 od46 an46 od47 an47 od48 an48 od49 an49 od50 an50 od51 an51 od52 an52 od53 an53 od54 an54 od55 an55 od56 an56 od57 an57 od58 an58 od59 an59 od60 an60 od61 an61 od62 an62 : Option Addr} {sl0 sl1 sl2 sl3 sl4 sl5 sl6 sl7 sl8 sl9 sl10 sl11 sl12 sl13 sl14 sl15 sl16 sl17 sl18 sl19 sl20 sl21 sl22 sl23 sl24 sl25 sl26 sl27 sl28 sl29 sl30 sl31 sl32 sl33 sl34 sl35 sl36 sl37 sl38 sl39 sl40 sl41 sl42 sl43 sl44 sl45 sl46 sl47 sl48 sl49 sl50 sl51 sl52 sl53 sl54 sl55 sl56 sl57 sl58 sl59 sl60 sl61 sl62 : Array (Option Value)} {oc0 kV0 dc0 pm0 cd0 ct0 oc1 kV1 dc1 pm1 cd1 ct1 oc2 kV2 dc2 pm2 cd2 ct2 oc3 kV3 dc3 pm3 cd3 ct3 oc4 kV4 dc4 pm4 cd4 ct4 oc5 kV5 dc5 pm5 cd5 ct5 oc6 kV6 dc6 pm6 cd6 ct6 oc7 kV7 dc7 pm7 cd7 ct7 oc8 kV8 dc8 pm8 cd8 ct8 oc9 kV9 dc9 pm9 cd9 ct9 oc10 kV10 dc10 pm10 cd10 ct10 oc11 kV11 dc11 pm11 cd11 ct11 oc12 kV12 dc12 pm12 cd12 ct12 oc13 kV13 dc13 pm13 cd13 ct13 oc14 kV14 dc14 pm14 cd14 ct14 oc15 kV15 dc15 pm15 cd15 ct15 oc16 kV16 dc16 pm16 cd16 ct16 oc17 kV17 dc17 pm17 cd17 ct17 oc18 kV18 dc18 pm18 cd18 ct18 oc19 kV19 dc19 pm19 cd19 ct19 oc20 kV20 dc20 pm20 cd20 ct20 oc21 kV21 dc21 pm21 cd21 ct21 oc22 kV22 dc22 pm22 cd22 ct22 oc23 kV23 dc23 pm23 cd23 ct23 oc24 kV24 dc24 pm24 cd24 ct24 oc25 kV25 dc25 pm25 cd25 ct25 oc26 kV26 dc26 pm26 cd26 ct26 oc27 kV27 dc27 pm27 cd27 ct27 oc28 kV28 dc28 pm28 cd28 ct28 oc29 kV29 dc29 pm29 cd29 ct29 oc30 kV30 dc30 pm30 cd30 ct30 oc31 kV31 dc31 pm31 cd31 ct31 oc32 kV32 dc32 pm32 cd32 ct32 oc33 kV33 dc33 pm33 cd33 ct33 oc34 kV34 dc34 pm34 cd34 ct34 oc35 kV35 dc35 pm35 cd35 ct35 oc36 kV36 dc36 pm36 cd36 ct36 oc37 kV37 dc37 pm37 cd37 ct37 oc38 kV38 dc38 pm38 cd38 ct38 oc39 kV39 dc39 pm39 cd39 ct39 oc40 kV40 dc40 pm40 cd40 ct40 oc41 kV41 dc41 pm41 cd41 ct41 oc42 kV42 dc42 pm42 cd42 ct42 oc43 kV43 dc43 pm43 cd43 ct43 oc44 kV44 dc44 pm44 cd44 ct44 oc45 kV45 dc45 pm45 cd45 ct45 oc46 kV46 dc46 pm46 cd46 ct46 oc47 kV47 dc47 pm47 cd47 ct47 oc48 kV48 dc48 pm48 cd48 ct48 oc49 kV49 dc49 pm49 cd49 ct49 oc50 kV50 dc50 pm50 cd50 ct50 oc51 kV51 dc51 pm51 cd51 ct51 oc52 kV52 dc52 pm52 cd52 ct52 oc53 kV53 dc53 pm53 cd53 ct53 oc54 kV54 dc54 pm54 cd54 ct54 oc55 kV55 dc55 pm55 cd55 ct55 oc56 kV56 dc56 pm56 cd56 ct56 oc57 kV57 dc57 pm57 cd57 ct57 oc58 kV58 dc58 pm58 cd58 ct58 oc59 kV59 dc59 pm59 cd59 ct59 oc60 kV60 dc60 pm60 cd60 ct60 oc61 kV61 dc61 pm61 cd61 ct61 oc62 kV62 dc62 pm62 cd62 ct62 : Value}
    {nm_InvalidTable q_InvalidTable : Str} {N_InvalidTable B_InvalidTable : Addr} {bs_InvalidTable sub_InvalidTable : List Value} {sn_InvalidTable : List Str} {ab_InvalidTable : Bool} {col_InvalidTable : Option Bool} {dd_InvalidTable : Option Addr} {m0_InvalidTable m1_InvalidTable m2_InvalidTable m3_InvalidTable m5_InvalidTable : Option Value}
    {nm_InvalidTargets q_InvalidTargets : Str} {N_InvalidTargets B_InvalidTargets : Addr} {bs_InvalidTargets sub_InvalidTargets : List Value} {sn_InvalidTargets : List Str} {ab_InvalidTargets : Bool} {col_InvalidTargets : Option Bool} {dd_InvalidTargets : Option Addr} {m0_InvalidTargets m1_InvalidTargets m2_InvalidTargets m3_InvalidTargets m5_InvalidTargets : Option Value}
    {nm_InvalidSeat q_InvalidSeat : Str} {N_InvalidSeat B_InvalidSeat : Addr} {bs_InvalidSeat sub_InvalidSeat : List Value} {sn_InvalidSeat : List Str} {ab_InvalidSeat : Bool} {col_InvalidSeat : Option Bool} {dd_InvalidSeat : Option Addr} {m0_InvalidSeat m1_InvalidSeat m2_InvalidSeat m3_InvalidSeat m5_InvalidSeat : Option Value}
    {nm_InvalidMoves q_InvalidMoves : Str} {N_InvalidMoves B_InvalidMoves : Addr} {bs_InvalidMoves sub_InvalidMoves : List Value} {sn_InvalidMoves : List Str} {ab_InvalidMoves : Bool} {col_InvalidMoves : Option Bool} {dd_InvalidMoves : Option Addr} {m0_InvalidMoves m1_InvalidMoves m2_InvalidMoves m3_InvalidMoves m5_InvalidMoves : Option Value}
    {nm_TooLarge q_TooLarge : Str} {N_TooLarge B_TooLarge : Addr} {bs_TooLarge sub_TooLarge : List Value} {sn_TooLarge : List Str} {ab_TooLarge : Bool} {col_TooLarge : Option Bool} {dd_TooLarge : Option Addr} {m0_TooLarge m1_TooLarge m2_TooLarge m3_TooLarge m5_TooLarge : Option Value}
    {t_MAX_RINGS t_SMALL : Tok}
    (aC_SeatError : PySem.W.nsIn K mainGlobals "SeatError" = some (some (.ref C_SeatError)))
    (ex_SeatError : PySem.W.subIn K (.ref C_SeatError) (.type "BaseException") = some true)
    (ty_SeatError : PySem.W.typeIn K (.ref C_SeatError) = some (.type "type"))
    (il_SeatError : PySem.W.isClsIn K C_SeatError = true)
    (aC_InvalidTable : PySem.W.nsIn K mainGlobals "InvalidTable" = some (some (.ref C_InvalidTable)))
    (aC_InvalidTargets : PySem.W.nsIn K mainGlobals "InvalidTargets" = some (some (.ref C_InvalidTargets)))
    (aC_InvalidSeat : PySem.W.nsIn K mainGlobals "InvalidSeat" = some (some (.ref C_InvalidSeat)))
    (aC_InvalidMoves : PySem.W.nsIn K mainGlobals "InvalidMoves" = some (some (.ref C_InvalidMoves)))
    (aC_TooLarge : PySem.W.nsIn K mainGlobals "TooLarge" = some (some (.ref C_TooLarge)))
    (aC_Table : PySem.W.nsIn K mainGlobals "Table" = some (some (.ref C_Table)))
    (aC_Record : PySem.W.nsIn K mainGlobals "Record" = some (some (.ref C_Record)))
    (a0 : PySem.W.nsIn K mainGlobals "_wall" = some (some (.ref f0)))
    (l0 : K.lookup f0 = some ⟨oc0, od0, .func (PySem.W.fnOf "_wall" "_wall" (defArgs s_wall) (defBody s_wall) (defScope s_wall) .none kV0 dc0 pm0 an0 cd0 ct0), sl0⟩)
    (c0 : PySem.W.codeIn K cd0 "_wall" = true)
    (k0 : PySem.W.keepIn K (.ref f0) = true)
    (a1 : PySem.W.findIn K (.ref C_InvalidTable) "__init__" = some (some (.ref f1)))
    (i1 : PySem.W.isFn K (.ref f1) = true)
    (l1 : K.lookup f1 = some ⟨oc1, od1, .func (PySem.W.fnOf "__init__" "InvalidTable.__init__" (defArgs s_InvalidTable_init) (defBody s_InvalidTable_init) (defScope s_InvalidTable_init) .none kV1 dc1 pm1 an1 cd1 ct1), sl1⟩)
    (c1 : PySem.W.codeIn K cd1 "InvalidTable.__init__" = true)
    (k1 : PySem.W.keepIn K (.ref f1) = true)
    (a2 : PySem.W.findIn K (.ref C_InvalidTargets) "__init__" = some (some (.ref f2)))
    (i2 : PySem.W.isFn K (.ref f2) = true)
    (l2 : K.lookup f2 = some ⟨oc2, od2, .func (PySem.W.fnOf "__init__" "InvalidTargets.__init__" (defArgs s_InvalidTargets_init) (defBody s_InvalidTargets_init) (defScope s_InvalidTargets_init) .none kV2 dc2 pm2 an2 cd2 ct2), sl2⟩)
    (c2 : PySem.W.codeIn K cd2 "InvalidTargets.__init__" = true)
    (k2 : PySem.W.keepIn K (.ref f2) = true)
    (a3 : PySem.W.findIn K (.ref C_InvalidSeat) "__init__" = some (some (.ref f3)))
    (i3 : PySem.W.isFn K (.ref f3) = true)
    (l3 : K.lookup f3 = some ⟨oc3, od3, .func (PySem.W.fnOf "__init__" "InvalidSeat.__init__" (defArgs s_InvalidSeat_init) (defBody s_InvalidSeat_init) (defScope s_InvalidSeat_init) .none kV3 dc3 pm3 an3 cd3 ct3), sl3⟩)
    (c3 : PySem.W.codeIn K cd3 "InvalidSeat.__init__" = true)
    (k3 : PySem.W.keepIn K (.ref f3) = true)
    (a4 : PySem.W.findIn K (.ref C_InvalidMoves) "__init__" = some (some (.ref f4)))
    (i4 : PySem.W.isFn K (.ref f4) = true)
    (l4 : K.lookup f4 = some ⟨oc4, od4, .func (PySem.W.fnOf "__init__" "InvalidMoves.__init__" (defArgs s_InvalidMoves_init) (defBody s_InvalidMoves_init) (defScope s_InvalidMoves_init) .none kV4 dc4 pm4 an4 cd4 ct4), sl4⟩)
    (c4 : PySem.W.codeIn K cd4 "InvalidMoves.__init__" = true)
    (k4 : PySem.W.keepIn K (.ref f4) = true)
    (a5 : PySem.W.findIn K (.ref C_TooLarge) "__init__" = some (some (.ref f5)))
    (i5 : PySem.W.isFn K (.ref f5) = true)
    (l5 : K.lookup f5 = some ⟨oc5, od5, .func (PySem.W.fnOf "__init__" "TooLarge.__init__" (defArgs s_TooLarge_init) (defBody s_TooLarge_init) (defScope s_TooLarge_init) .none kV5 dc5 pm5 an5 cd5 ct5), sl5⟩)
    (c5 : PySem.W.codeIn K cd5 "TooLarge.__init__" = true)
    (k5 : PySem.W.keepIn K (.ref f5) = true)
    (a6 : PySem.W.nsIn K mainGlobals "is_integer" = some (some (.ref f6)))
    (l6 : K.lookup f6 = some ⟨oc6, od6, .func (PySem.W.fnOf "is_integer" "is_integer" (defArgs s_is_integer) (defBody s_is_integer) (defScope s_is_integer) .none kV6 dc6 pm6 an6 cd6 ct6), sl6⟩)
    (c6 : PySem.W.codeIn K cd6 "is_integer" = true)
    (k6 : PySem.W.keepIn K (.ref f6) = true)
    (a7 : PySem.W.nsIn K mainGlobals "is_at_least" = some (some (.ref f7)))
    (l7 : K.lookup f7 = some ⟨oc7, od7, .func (PySem.W.fnOf "is_at_least" "is_at_least" (defArgs s_is_at_least) (defBody s_is_at_least) (defScope s_is_at_least) .none kV7 dc7 pm7 an7 cd7 ct7), sl7⟩)
    (c7 : PySem.W.codeIn K cd7 "is_at_least" = true)
    (k7 : PySem.W.keepIn K (.ref f7) = true)
    (a8 : PySem.W.nsIn K mainGlobals "is_between" = some (some (.ref f8)))
    (l8 : K.lookup f8 = some ⟨oc8, od8, .func (PySem.W.fnOf "is_between" "is_between" (defArgs s_is_between) (defBody s_is_between) (defScope s_is_between) .none kV8 dc8 pm8 an8 cd8 ct8), sl8⟩)
    (c8 : PySem.W.codeIn K cd8 "is_between" = true)
    (k8 : PySem.W.keepIn K (.ref f8) = true)
    (a9 : PySem.W.nsIn K mainGlobals "greatest_common_divisor" = some (some (.ref f9)))
    (l9 : K.lookup f9 = some ⟨oc9, od9, .func (PySem.W.fnOf "greatest_common_divisor" "greatest_common_divisor" (defArgs s_greatest_common_divisor) (defBody s_greatest_common_divisor) (defScope s_greatest_common_divisor) .none kV9 dc9 pm9 an9 cd9 ct9), sl9⟩)
    (c9 : PySem.W.codeIn K cd9 "greatest_common_divisor" = true)
    (k9 : PySem.W.keepIn K (.ref f9) = true)
    (a10 : PySem.W.findIn K (.ref C_Table) "__init__" = some (some (.ref f10)))
    (i10 : PySem.W.isFn K (.ref f10) = true)
    (l10 : K.lookup f10 = some ⟨oc10, od10, .func (PySem.W.fnOf "__init__" "Table.__init__" (defArgs s_Table_init) (defBody s_Table_init) (defScope s_Table_init) .none kV10 dc10 pm10 an10 cd10 ct10), sl10⟩)
    (c10 : PySem.W.codeIn K cd10 "Table.__init__" = true)
    (k10 : PySem.W.keepIn K (.ref f10) = true)
    (a11 : PySem.W.findIn K (.ref C_Table) "sizes" = some (some (.ref f11)))
    (i11 : PySem.W.isFn K (.ref f11) = true)
    (l11 : K.lookup f11 = some ⟨oc11, od11, .func (PySem.W.fnOf "sizes" "Table.sizes" (defArgs s_Table_sizes) (defBody s_Table_sizes) (defScope s_Table_sizes) .none kV11 dc11 pm11 an11 cd11 ct11), sl11⟩)
    (c11 : PySem.W.codeIn K cd11 "Table.sizes" = true)
    (k11 : PySem.W.keepIn K (.ref f11) = true)
    (a12 : PySem.W.findIn K (.ref C_Table) "count" = some (some (.ref f12)))
    (i12 : PySem.W.isFn K (.ref f12) = true)
    (l12 : K.lookup f12 = some ⟨oc12, od12, .func (PySem.W.fnOf "count" "Table.count" (defArgs s_Table_count) (defBody s_Table_count) (defScope s_Table_count) .none kV12 dc12 pm12 an12 cd12 ct12), sl12⟩)
    (c12 : PySem.W.codeIn K cd12 "Table.count" = true)
    (k12 : PySem.W.keepIn K (.ref f12) = true)
    (a13 : PySem.W.findIn K (.ref C_Table) "is_seat" = some (some (.ref f13)))
    (i13 : PySem.W.isFn K (.ref f13) = true)
    (l13 : K.lookup f13 = some ⟨oc13, od13, .func (PySem.W.fnOf "is_seat" "Table.is_seat" (defArgs s_Table_is_seat) (defBody s_Table_is_seat) (defScope s_Table_is_seat) .none kV13 dc13 pm13 an13 cd13 ct13), sl13⟩)
    (c13 : PySem.W.codeIn K cd13 "Table.is_seat" = true)
    (k13 : PySem.W.keepIn K (.ref f13) = true)
    (a14 : PySem.W.findIn K (.ref C_Table) "is_call" = some (some (.ref f14)))
    (i14 : PySem.W.isFn K (.ref f14) = true)
    (l14 : K.lookup f14 = some ⟨oc14, od14, .func (PySem.W.fnOf "is_call" "Table.is_call" (defArgs s_Table_is_call) (defBody s_Table_is_call) (defScope s_Table_is_call) .none kV14 dc14 pm14 an14 cd14 ct14), sl14⟩)
    (c14 : PySem.W.codeIn K cd14 "Table.is_call" = true)
    (k14 : PySem.W.keepIn K (.ref f14) = true)
    (a15 : PySem.W.findIn K (.ref C_Table) "shifted" = some (some (.ref f15)))
    (i15 : PySem.W.isFn K (.ref f15) = true)
    (l15 : K.lookup f15 = some ⟨oc15, od15, .func (PySem.W.fnOf "shifted" "Table.shifted" (defArgs s_Table_shifted) (defBody s_Table_shifted) (defScope s_Table_shifted) .none kV15 dc15 pm15 an15 cd15 ct15), sl15⟩)
    (c15 : PySem.W.codeIn K cd15 "Table.shifted" = true)
    (k15 : PySem.W.keepIn K (.ref f15) = true)
    (a16 : PySem.W.findIn K (.ref C_Table) "moves" = some (some (.ref f16)))
    (i16 : PySem.W.isFn K (.ref f16) = true)
    (l16 : K.lookup f16 = some ⟨oc16, od16, .func (PySem.W.fnOf "moves" "Table.moves" (defArgs s_Table_moves) (defBody s_Table_moves) (defScope s_Table_moves) .none kV16 dc16 pm16 an16 cd16 ct16), sl16⟩)
    (c16 : PySem.W.codeIn K cd16 "Table.moves" = true)
    (k16 : PySem.W.keepIn K (.ref f16) = true)
    (a17 : PySem.W.findIn K (.ref C_Table) "step" = some (some (.ref f17)))
    (i17 : PySem.W.isFn K (.ref f17) = true)
    (l17 : K.lookup f17 = some ⟨oc17, od17, .func (PySem.W.fnOf "step" "Table.step" (defArgs s_Table_step) (defBody s_Table_step) (defScope s_Table_step) .none kV17 dc17 pm17 an17 cd17 ct17), sl17⟩)
    (c17 : PySem.W.codeIn K cd17 "Table.step" = true)
    (k17 : PySem.W.keepIn K (.ref f17) = true)
    (a18 : PySem.W.findIn K (.ref C_Table) "order" = some (some (.ref f18)))
    (i18 : PySem.W.isFn K (.ref f18) = true)
    (l18 : K.lookup f18 = some ⟨oc18, od18, .func (PySem.W.fnOf "order" "Table.order" (defArgs s_Table_order) (defBody s_Table_order) (defScope s_Table_order) .none kV18 dc18 pm18 an18 cd18 ct18), sl18⟩)
    (c18 : PySem.W.codeIn K cd18 "Table.order" = true)
    (k18 : PySem.W.keepIn K (.ref f18) = true)
    (a19 : PySem.W.findIn K (.ref C_Table) "halves" = some (some (.ref f19)))
    (i19 : PySem.W.isFn K (.ref f19) = true)
    (l19 : K.lookup f19 = some ⟨oc19, od19, .func (PySem.W.fnOf "halves" "Table.halves" (defArgs s_Table_halves) (defBody s_Table_halves) (defScope s_Table_halves) .none kV19 dc19 pm19 an19 cd19 ct19), sl19⟩)
    (c19 : PySem.W.codeIn K cd19 "Table.halves" = true)
    (k19 : PySem.W.keepIn K (.ref f19) = true)
    (a20 : PySem.W.nsIn K mainGlobals "is_direction" = some (some (.ref f20)))
    (l20 : K.lookup f20 = some ⟨oc20, od20, .func (PySem.W.fnOf "is_direction" "is_direction" (defArgs s_is_direction) (defBody s_is_direction) (defScope s_is_direction) .none kV20 dc20 pm20 an20 cd20 ct20), sl20⟩)
    (c20 : PySem.W.codeIn K cd20 "is_direction" = true)
    (k20 : PySem.W.keepIn K (.ref f20) = true)
    (a21 : PySem.W.nsIn K mainGlobals "require_table" = some (some (.ref f21)))
    (l21 : K.lookup f21 = some ⟨oc21, od21, .func (PySem.W.fnOf "require_table" "require_table" (defArgs s_require_table) (defBody s_require_table) (defScope s_require_table) .none kV21 dc21 pm21 an21 cd21 ct21), sl21⟩)
    (c21 : PySem.W.codeIn K cd21 "require_table" = true)
    (k21 : PySem.W.keepIn K (.ref f21) = true)
    (a22 : PySem.W.nsIn K mainGlobals "require_seat" = some (some (.ref f22)))
    (l22 : K.lookup f22 = some ⟨oc22, od22, .func (PySem.W.fnOf "require_seat" "require_seat" (defArgs s_require_seat) (defBody s_require_seat) (defScope s_require_seat) .none kV22 dc22 pm22 an22 cd22 ct22), sl22⟩)
    (c22 : PySem.W.codeIn K cd22 "require_seat" = true)
    (k22 : PySem.W.keepIn K (.ref f22) = true)
    (a23 : PySem.W.nsIn K mainGlobals "require_call" = some (some (.ref f23)))
    (l23 : K.lookup f23 = some ⟨oc23, od23, .func (PySem.W.fnOf "require_call" "require_call" (defArgs s_require_call) (defBody s_require_call) (defScope s_require_call) .none kV23 dc23 pm23 an23 cd23 ct23), sl23⟩)
    (c23 : PySem.W.codeIn K cd23 "require_call" = true)
    (k23 : PySem.W.keepIn K (.ref f23) = true)
    (a24 : PySem.W.nsIn K mainGlobals "require_targets" = some (some (.ref f24)))
    (l24 : K.lookup f24 = some ⟨oc24, od24, .func (PySem.W.fnOf "require_targets" "require_targets" (defArgs s_require_targets) (defBody s_require_targets) (defScope s_require_targets) .none kV24 dc24 pm24 an24 cd24 ct24), sl24⟩)
    (c24 : PySem.W.codeIn K cd24 "require_targets" = true)
    (k24 : PySem.W.keepIn K (.ref f24) = true)
    (a25 : PySem.W.nsIn K mainGlobals "require_small" = some (some (.ref f25)))
    (l25 : K.lookup f25 = some ⟨oc25, od25, .func (PySem.W.fnOf "require_small" "require_small" (defArgs s_require_small) (defBody s_require_small) (defScope s_require_small) .none kV25 dc25 pm25 an25 cd25 ct25), sl25⟩)
    (c25 : PySem.W.codeIn K cd25 "require_small" = true)
    (k25 : PySem.W.keepIn K (.ref f25) = true)
    (a26 : PySem.W.nsIn K mainGlobals "all_seats" = some (some (.ref f26)))
    (l26 : K.lookup f26 = some ⟨oc26, od26, .func (PySem.W.fnOf "all_seats" "all_seats" (defArgs s_all_seats) (defBody s_all_seats) (defScope s_all_seats) .none kV26 dc26 pm26 an26 cd26 ct26), sl26⟩)
    (c26 : PySem.W.codeIn K cd26 "all_seats" = true)
    (k26 : PySem.W.keepIn K (.ref f26) = true)
    (a27 : PySem.W.nsIn K mainGlobals "mirror_seat" = some (some (.ref f27)))
    (l27 : K.lookup f27 = some ⟨oc27, od27, .func (PySem.W.fnOf "mirror_seat" "mirror_seat" (defArgs s_mirror_seat) (defBody s_mirror_seat) (defScope s_mirror_seat) .none kV27 dc27 pm27 an27 cd27 ct27), sl27⟩)
    (c27 : PySem.W.codeIn K cd27 "mirror_seat" = true)
    (k27 : PySem.W.keepIn K (.ref f27) = true)
    (a28 : PySem.W.nsIn K mainGlobals "call_counts" = some (some (.ref f28)))
    (l28 : K.lookup f28 = some ⟨oc28, od28, .func (PySem.W.fnOf "call_counts" "call_counts" (defArgs s_call_counts) (defBody s_call_counts) (defScope s_call_counts) .none kV28 dc28 pm28 an28 cd28 ct28), sl28⟩)
    (c28 : PySem.W.codeIn K cd28 "call_counts" = true)
    (k28 : PySem.W.keepIn K (.ref f28) = true)
    (a29 : PySem.W.nsIn K mainGlobals "weighted" = some (some (.ref f29)))
    (l29 : K.lookup f29 = some ⟨oc29, od29, .func (PySem.W.fnOf "weighted" "weighted" (defArgs s_weighted) (defBody s_weighted) (defScope s_weighted) .none kV29 dc29 pm29 an29 cd29 ct29), sl29⟩)
    (c29 : PySem.W.codeIn K cd29 "weighted" = true)
    (k29 : PySem.W.keepIn K (.ref f29) = true)
    (a30 : PySem.W.nsIn K mainGlobals "is_move" = some (some (.ref f30)))
    (l30 : K.lookup f30 = some ⟨oc30, od30, .func (PySem.W.fnOf "is_move" "is_move" (defArgs s_is_move) (defBody s_is_move) (defScope s_is_move) .none kV30 dc30 pm30 an30 cd30 ct30), sl30⟩)
    (c30 : PySem.W.codeIn K cd30 "is_move" = true)
    (k30 : PySem.W.keepIn K (.ref f30) = true)
    (a31 : PySem.W.nsIn K mainGlobals "require_moves" = some (some (.ref f31)))
    (l31 : K.lookup f31 = some ⟨oc31, od31, .func (PySem.W.fnOf "require_moves" "require_moves" (defArgs s_require_moves) (defBody s_require_moves) (defScope s_require_moves) .none kV31 dc31 pm31 an31 cd31 ct31), sl31⟩)
    (c31 : PySem.W.codeIn K cd31 "require_moves" = true)
    (k31 : PySem.W.keepIn K (.ref f31) = true)
    (a32 : PySem.W.nsIn K mainGlobals "visited_seats" = some (some (.ref f32)))
    (l32 : K.lookup f32 = some ⟨oc32, od32, .func (PySem.W.fnOf "visited_seats" "visited_seats" (defArgs s_visited_seats) (defBody s_visited_seats) (defScope s_visited_seats) .none kV32 dc32 pm32 an32 cd32 ct32), sl32⟩)
    (c32 : PySem.W.codeIn K cd32 "visited_seats" = true)
    (k32 : PySem.W.keepIn K (.ref f32) = true)
    (a33 : PySem.W.nsIn K mainGlobals "larger" = some (some (.ref f33)))
    (l33 : K.lookup f33 = some ⟨oc33, od33, .func (PySem.W.fnOf "larger" "larger" (defArgs s_larger) (defBody s_larger) (defScope s_larger) .none kV33 dc33 pm33 an33 cd33 ct33), sl33⟩)
    (c33 : PySem.W.codeIn K cd33 "larger" = true)
    (k33 : PySem.W.keepIn K (.ref f33) = true)
    (a34 : PySem.W.nsIn K mainGlobals "caller_loss" = some (some (.ref f34)))
    (l34 : K.lookup f34 = some ⟨oc34, od34, .func (PySem.W.fnOf "caller_loss" "caller_loss" (defArgs s_caller_loss) (defBody s_caller_loss) (defScope s_caller_loss) .none kV34 dc34 pm34 an34 cd34 ct34), sl34⟩)
    (c34 : PySem.W.codeIn K cd34 "caller_loss" = true)
    (k34 : PySem.W.keepIn K (.ref f34) = true)
    (a35 : PySem.W.nsIn K mainGlobals "responder_loss" = some (some (.ref f35)))
    (l35 : K.lookup f35 = some ⟨oc35, od35, .func (PySem.W.fnOf "responder_loss" "responder_loss" (defArgs s_responder_loss) (defBody s_responder_loss) (defScope s_responder_loss) .none kV35 dc35 pm35 an35 cd35 ct35), sl35⟩)
    (c35 : PySem.W.codeIn K cd35 "responder_loss" = true)
    (k35 : PySem.W.keepIn K (.ref f35) = true)
    (a36 : PySem.W.findIn K (.ref C_Record) "__init__" = some (some (.ref f36)))
    (i36 : PySem.W.isFn K (.ref f36) = true)
    (l36 : K.lookup f36 = some ⟨oc36, od36, .func (PySem.W.fnOf "__init__" "Record.__init__" (defArgs s_Record_init) (defBody s_Record_init) (defScope s_Record_init) .none kV36 dc36 pm36 an36 cd36 ct36), sl36⟩)
    (c36 : PySem.W.codeIn K cd36 "Record.__init__" = true)
    (k36 : PySem.W.keepIn K (.ref f36) = true)
    (a37 : PySem.W.findIn K (.ref C_Record) "seats" = some (some (.ref f37)))
    (i37 : PySem.W.isFn K (.ref f37) = true)
    (l37 : K.lookup f37 = some ⟨oc37, od37, .func (PySem.W.fnOf "seats" "Record.seats" (defArgs s_Record_seats) (defBody s_Record_seats) (defScope s_Record_seats) .none kV37 dc37 pm37 an37 cd37 ct37), sl37⟩)
    (c37 : PySem.W.codeIn K cd37 "Record.seats" = true)
    (k37 : PySem.W.keepIn K (.ref f37) = true)
    (a38 : PySem.W.findIn K (.ref C_Record) "calls_to_target" = some (some (.ref f38)))
    (i38 : PySem.W.isFn K (.ref f38) = true)
    (l38 : K.lookup f38 = some ⟨oc38, od38, .func (PySem.W.fnOf "calls_to_target" "Record.calls_to_target" (defArgs s_Record_calls_to_target) (defBody s_Record_calls_to_target) (defScope s_Record_calls_to_target) .none kV38 dc38 pm38 an38 cd38 ct38), sl38⟩)
    (c38 : PySem.W.codeIn K cd38 "Record.calls_to_target" = true)
    (k38 : PySem.W.keepIn K (.ref f38) = true)
    (a39 : PySem.W.findIn K (.ref C_Record) "losses" = some (some (.ref f39)))
    (i39 : PySem.W.isFn K (.ref f39) = true)
    (l39 : K.lookup f39 = some ⟨oc39, od39, .func (PySem.W.fnOf "losses" "Record.losses" (defArgs s_Record_losses) (defBody s_Record_losses) (defScope s_Record_losses) .none kV39 dc39 pm39 an39 cd39 ct39), sl39⟩)
    (c39 : PySem.W.codeIn K cd39 "Record.losses" = true)
    (k39 : PySem.W.keepIn K (.ref f39) = true)
    (a40 : PySem.W.findIn K (.ref C_Record) "first_mistake" = some (some (.ref f40)))
    (i40 : PySem.W.isFn K (.ref f40) = true)
    (l40 : K.lookup f40 = some ⟨oc40, od40, .func (PySem.W.fnOf "first_mistake" "Record.first_mistake" (defArgs s_Record_first_mistake) (defBody s_Record_first_mistake) (defScope s_Record_first_mistake) .none kV40 dc40 pm40 an40 cd40 ct40), sl40⟩)
    (c40 : PySem.W.codeIn K cd40 "Record.first_mistake" = true)
    (k40 : PySem.W.keepIn K (.ref f40) = true)
    (a41 : PySem.W.nsIn K mainGlobals "common_exponent" = some (some (.ref f41)))
    (l41 : K.lookup f41 = some ⟨oc41, od41, .func (PySem.W.fnOf "common_exponent" "common_exponent" (defArgs s_common_exponent) (defBody s_common_exponent) (defScope s_common_exponent) .none kV41 dc41 pm41 an41 cd41 ct41), sl41⟩)
    (c41 : PySem.W.codeIn K cd41 "common_exponent" = true)
    (k41 : PySem.W.keepIn K (.ref f41) = true)
    (a42 : PySem.W.nsIn K mainGlobals "weight_rows" = some (some (.ref f42)))
    (l42 : K.lookup f42 = some ⟨oc42, od42, .func (PySem.W.fnOf "weight_rows" "weight_rows" (defArgs s_weight_rows) (defBody s_weight_rows) (defScope s_weight_rows) .none kV42 dc42 pm42 an42 cd42 ct42), sl42⟩)
    (c42 : PySem.W.codeIn K cd42 "weight_rows" = true)
    (k42 : PySem.W.keepIn K (.ref f42) = true)
    (a43 : PySem.W.nsIn K mainGlobals "units_of" = some (some (.ref f43)))
    (l43 : K.lookup f43 = some ⟨oc43, od43, .func (PySem.W.fnOf "units_of" "units_of" (defArgs s_units_of) (defBody s_units_of) (defScope s_units_of) .none kV43 dc43 pm43 an43 cd43 ct43), sl43⟩)
    (c43 : PySem.W.codeIn K cd43 "units_of" = true)
    (k43 : PySem.W.keepIn K (.ref f43) = true)
    (a44 : PySem.W.nsIn K mainGlobals "is_canonical" = some (some (.ref f44)))
    (l44 : K.lookup f44 = some ⟨oc44, od44, .func (PySem.W.fnOf "is_canonical" "is_canonical" (defArgs s_is_canonical) (defBody s_is_canonical) (defScope s_is_canonical) .none kV44 dc44 pm44 an44 cd44 ct44), sl44⟩)
    (c44 : PySem.W.codeIn K cd44 "is_canonical" = true)
    (k44 : PySem.W.keepIn K (.ref f44) = true)
    (a45 : PySem.W.nsIn K mainGlobals "explains" = some (some (.ref f45)))
    (l45 : K.lookup f45 = some ⟨oc45, od45, .func (PySem.W.fnOf "explains" "explains" (defArgs s_explains) (defBody s_explains) (defScope s_explains) .none kV45 dc45 pm45 an45 cd45 ct45), sl45⟩)
    (c45 : PySem.W.codeIn K cd45 "explains" = true)
    (k45 : PySem.W.keepIn K (.ref f45) = true)
    (a46 : PySem.W.nsIn K mainGlobals "consistent_witnesses" = some (some (.ref f46)))
    (l46 : K.lookup f46 = some ⟨oc46, od46, .func (PySem.W.fnOf "consistent_witnesses" "consistent_witnesses" (defArgs s_consistent_witnesses) (defBody s_consistent_witnesses) (defScope s_consistent_witnesses) .none kV46 dc46 pm46 an46 cd46 ct46), sl46⟩)
    (c46 : PySem.W.codeIn K cd46 "consistent_witnesses" = true)
    (k46 : PySem.W.keepIn K (.ref f46) = true)
    (a47 : PySem.W.nsIn K mainGlobals "_law_mixed" = some (some (.ref f47)))
    (l47 : K.lookup f47 = some ⟨oc47, od47, .func (PySem.W.fnOf "_law_mixed" "_law_mixed" (defArgs s_law_mixed) (defBody s_law_mixed) (defScope s_law_mixed) .none kV47 dc47 pm47 an47 cd47 ct47), sl47⟩)
    (c47 : PySem.W.codeIn K cd47 "_law_mixed" = true)
    (k47 : PySem.W.keepIn K (.ref f47) = true)
    (a48 : PySem.W.nsIn K mainGlobals "_law_source" = some (some (.ref f48)))
    (l48 : K.lookup f48 = some ⟨oc48, od48, .func (PySem.W.fnOf "_law_source" "_law_source" (defArgs s_law_source) (defBody s_law_source) (defScope s_law_source) .none kV48 dc48 pm48 an48 cd48 ct48), sl48⟩)
    (c48 : PySem.W.codeIn K cd48 "_law_source" = true)
    (k48 : PySem.W.keepIn K (.ref f48) = true)
    (a49 : PySem.W.nsIn K mainGlobals "_law_take" = some (some (.ref f49)))
    (l49 : K.lookup f49 = some ⟨oc49, od49, .func (PySem.W.fnOf "_law_take" "_law_take" (defArgs s_law_take) (defBody s_law_take) (defScope s_law_take) .none kV49 dc49 pm49 an49 cd49 ct49), sl49⟩)
    (c49 : PySem.W.codeIn K cd49 "_law_take" = true)
    (k49 : PySem.W.keepIn K (.ref f49) = true)
    (a50 : PySem.W.nsIn K mainGlobals "_law_one" = some (some (.ref f50)))
    (l50 : K.lookup f50 = some ⟨oc50, od50, .func (PySem.W.fnOf "_law_one" "_law_one" (defArgs s_law_one) (defBody s_law_one) (defScope s_law_one) .none kV50 dc50 pm50 an50 cd50 ct50), sl50⟩)
    (c50 : PySem.W.codeIn K cd50 "_law_one" = true)
    (k50 : PySem.W.keepIn K (.ref f50) = true)
    (a51 : PySem.W.nsIn K mainGlobals "_law_rings" = some (some (.ref f51)))
    (l51 : K.lookup f51 = some ⟨oc51, od51, .func (PySem.W.fnOf "_law_rings" "_law_rings" (defArgs s_law_rings) (defBody s_law_rings) (defScope s_law_rings) .none kV51 dc51 pm51 an51 cd51 ct51), sl51⟩)
    (c51 : PySem.W.codeIn K cd51 "_law_rings" = true)
    (k51 : PySem.W.keepIn K (.ref f51) = true)
    (a52 : PySem.W.nsIn K mainGlobals "_law_seat" = some (some (.ref f52)))
    (l52 : K.lookup f52 = some ⟨oc52, od52, .func (PySem.W.fnOf "_law_seat" "_law_seat" (defArgs s_law_seat) (defBody s_law_seat) (defScope s_law_seat) .none kV52 dc52 pm52 an52 cd52 ct52), sl52⟩)
    (c52 : PySem.W.codeIn K cd52 "_law_seat" = true)
    (k52 : PySem.W.keepIn K (.ref f52) = true)
    (a53 : PySem.W.nsIn K mainGlobals "_law_seats" = some (some (.ref f53)))
    (l53 : K.lookup f53 = some ⟨oc53, od53, .func (PySem.W.fnOf "_law_seats" "_law_seats" (defArgs s_law_seats) (defBody s_law_seats) (defScope s_law_seats) .none kV53 dc53 pm53 an53 cd53 ct53), sl53⟩)
    (c53 : PySem.W.codeIn K cd53 "_law_seats" = true)
    (k53 : PySem.W.keepIn K (.ref f53) = true)
    (a54 : PySem.W.nsIn K mainGlobals "_law_call" = some (some (.ref f54)))
    (l54 : K.lookup f54 = some ⟨oc54, od54, .func (PySem.W.fnOf "_law_call" "_law_call" (defArgs s_law_call) (defBody s_law_call) (defScope s_law_call) .none kV54 dc54 pm54 an54 cd54 ct54), sl54⟩)
    (c54 : PySem.W.codeIn K cd54 "_law_call" = true)
    (k54 : PySem.W.keepIn K (.ref f54) = true)
    (a55 : PySem.W.nsIn K mainGlobals "_law_moves" = some (some (.ref f55)))
    (l55 : K.lookup f55 = some ⟨oc55, od55, .func (PySem.W.fnOf "_law_moves" "_law_moves" (defArgs s_law_moves) (defBody s_law_moves) (defScope s_law_moves) .none kV55 dc55 pm55 an55 cd55 ct55), sl55⟩)
    (c55 : PySem.W.codeIn K cd55 "_law_moves" = true)
    (k55 : PySem.W.keepIn K (.ref f55) = true)
    (a56 : PySem.W.nsIn K mainGlobals "_law_raised" = some (some (.ref f56)))
    (l56 : K.lookup f56 = some ⟨oc56, od56, .func (PySem.W.fnOf "_law_raised" "_law_raised" (defArgs s_law_raised) (defBody s_law_raised) (defScope s_law_raised) .none kV56 dc56 pm56 an56 cd56 ct56), sl56⟩)
    (c56 : PySem.W.codeIn K cd56 "_law_raised" = true)
    (k56 : PySem.W.keepIn K (.ref f56) = true)
    (a57 : PySem.W.nsIn K mainGlobals "_law_bad_seat" = some (some (.ref f57)))
    (l57 : K.lookup f57 = some ⟨oc57, od57, .func (PySem.W.fnOf "_law_bad_seat" "_law_bad_seat" (defArgs s_law_bad_seat) (defBody s_law_bad_seat) (defScope s_law_bad_seat) .none kV57 dc57 pm57 an57 cd57 ct57), sl57⟩)
    (c57 : PySem.W.codeIn K cd57 "_law_bad_seat" = true)
    (k57 : PySem.W.keepIn K (.ref f57) = true)
    (a58 : PySem.W.nsIn K mainGlobals "_law_bad_targets" = some (some (.ref f58)))
    (l58 : K.lookup f58 = some ⟨oc58, od58, .func (PySem.W.fnOf "_law_bad_targets" "_law_bad_targets" (defArgs s_law_bad_targets) (defBody s_law_bad_targets) (defScope s_law_bad_targets) .none kV58 dc58 pm58 an58 cd58 ct58), sl58⟩)
    (c58 : PySem.W.codeIn K cd58 "_law_bad_targets" = true)
    (k58 : PySem.W.keepIn K (.ref f58) = true)
    (a59 : PySem.W.nsIn K mainGlobals "_law_bad_move" = some (some (.ref f59)))
    (l59 : K.lookup f59 = some ⟨oc59, od59, .func (PySem.W.fnOf "_law_bad_move" "_law_bad_move" (defArgs s_law_bad_move) (defBody s_law_bad_move) (defScope s_law_bad_move) .none kV59 dc59 pm59 an59 cd59 ct59), sl59⟩)
    (c59 : PySem.W.codeIn K cd59 "_law_bad_move" = true)
    (k59 : PySem.W.keepIn K (.ref f59) = true)
    (a60 : PySem.W.nsIn K mainGlobals "_law_right" = some (some (.ref f60)))
    (l60 : K.lookup f60 = some ⟨oc60, od60, .func (PySem.W.fnOf "_law_right" "_law_right" (defArgs s_law_right) (defBody s_law_right) (defScope s_law_right) .none kV60 dc60 pm60 an60 cd60 ct60), sl60⟩)
    (c60 : PySem.W.codeIn K cd60 "_law_right" = true)
    (k60 : PySem.W.keepIn K (.ref f60) = true)
    (a61 : PySem.W.nsIn K mainGlobals "_law_large_right" = some (some (.ref f61)))
    (l61 : K.lookup f61 = some ⟨oc61, od61, .func (PySem.W.fnOf "_law_large_right" "_law_large_right" (defArgs s_law_large_right) (defBody s_law_large_right) (defScope s_law_large_right) .none kV61 dc61 pm61 an61 cd61 ct61), sl61⟩)
    (c61 : PySem.W.codeIn K cd61 "_law_large_right" = true)
    (k61 : PySem.W.keepIn K (.ref f61) = true)
    (a62 : PySem.W.nsIn K mainGlobals "law" = some (some (.ref f62)))
    (l62 : K.lookup f62 = some ⟨oc62, od62, .func (PySem.W.fnOf "law" "law" (defArgs s_law) (defBody s_law) (defScope s_law) .none kV62 dc62 pm62 an62 cd62 ct62), sl62⟩)
    (c62 : PySem.W.codeIn K cd62 "law" = true)
    (k62 : PySem.W.keepIn K (.ref f62) = true)
    (xl_InvalidTable : K.lookup C_InvalidTable = some (excClassObj nm_InvalidTable q_InvalidTable C_InvalidTable N_InvalidTable bs_InvalidTable [.ref B_InvalidTable, .type "ValueError", .type "Exception", .type "BaseException", .type "object"] true sn_InvalidTable sub_InvalidTable ab_InvalidTable col_InvalidTable dd_InvalidTable m0_InvalidTable m1_InvalidTable m2_InvalidTable m3_InvalidTable m5_InvalidTable "ValueError.__new__"))
    (sa_InvalidTable : PySem.W.findIn K (.ref C_InvalidTable) "__setattr__" = some (some (.builtin "object.__setattr__")))
    (ga_InvalidTable : PySem.W.findIn K (.ref C_InvalidTable) "__getattribute__" = some (some (.builtin "BaseException.__getattribute__")))
    (gg_InvalidTable : PySem.W.findIn K (.ref C_InvalidTable) "__getattr__" = some none)
    (ti_InvalidTable : PySem.W.typeIn K (.ref f1) = some (.type "function"))
    (kc_InvalidTable : PySem.W.keepIn K (.ref C_InvalidTable) = true)
    (ex_InvalidTable : PySem.W.subIn K (.ref C_InvalidTable) (.type "BaseException") = some true)
    (ty_InvalidTable : PySem.W.typeIn K (.ref C_InvalidTable) = some (.type "type"))
    (hd_InvalidTable : PySem.W.hasDictIn K C_InvalidTable = true)
    (il_InvalidTable : PySem.W.isClsIn K C_InvalidTable = true)
    (ss_InvalidTable : PySem.W.subIn K (.ref C_InvalidTable) (.ref C_InvalidTable) = some true)
    (ss_InvalidTable_SeatError : PySem.W.subIn K (.ref C_InvalidTable) (.ref C_SeatError) = some true)
    (n_InvalidTable_rings : PySem.W.findIn K (.ref C_InvalidTable) "rings" = some none)
    (xl_InvalidTargets : K.lookup C_InvalidTargets = some (excClassObj nm_InvalidTargets q_InvalidTargets C_InvalidTargets N_InvalidTargets bs_InvalidTargets [.ref B_InvalidTargets, .type "ValueError", .type "Exception", .type "BaseException", .type "object"] true sn_InvalidTargets sub_InvalidTargets ab_InvalidTargets col_InvalidTargets dd_InvalidTargets m0_InvalidTargets m1_InvalidTargets m2_InvalidTargets m3_InvalidTargets m5_InvalidTargets "ValueError.__new__"))
    (sa_InvalidTargets : PySem.W.findIn K (.ref C_InvalidTargets) "__setattr__" = some (some (.builtin "object.__setattr__")))
    (ga_InvalidTargets : PySem.W.findIn K (.ref C_InvalidTargets) "__getattribute__" = some (some (.builtin "BaseException.__getattribute__")))
    (gg_InvalidTargets : PySem.W.findIn K (.ref C_InvalidTargets) "__getattr__" = some none)
    (ti_InvalidTargets : PySem.W.typeIn K (.ref f2) = some (.type "function"))
    (kc_InvalidTargets : PySem.W.keepIn K (.ref C_InvalidTargets) = true)
    (ex_InvalidTargets : PySem.W.subIn K (.ref C_InvalidTargets) (.type "BaseException") = some true)
    (ty_InvalidTargets : PySem.W.typeIn K (.ref C_InvalidTargets) = some (.type "type"))
    (hd_InvalidTargets : PySem.W.hasDictIn K C_InvalidTargets = true)
    (il_InvalidTargets : PySem.W.isClsIn K C_InvalidTargets = true)
    (ss_InvalidTargets : PySem.W.subIn K (.ref C_InvalidTargets) (.ref C_InvalidTargets) = some true)
    (ss_InvalidTargets_SeatError : PySem.W.subIn K (.ref C_InvalidTargets) (.ref C_SeatError) = some true)
    (so_InvalidTargets_InvalidTable : PySem.W.subIn K (.ref C_InvalidTargets) (.ref C_InvalidTable) = some false)
    (n_InvalidTargets_index : PySem.W.findIn K (.ref C_InvalidTargets) "index" = some none)
    (xl_InvalidSeat : K.lookup C_InvalidSeat = some (excClassObj nm_InvalidSeat q_InvalidSeat C_InvalidSeat N_InvalidSeat bs_InvalidSeat [.ref B_InvalidSeat, .type "ValueError", .type "Exception", .type "BaseException", .type "object"] true sn_InvalidSeat sub_InvalidSeat ab_InvalidSeat col_InvalidSeat dd_InvalidSeat m0_InvalidSeat m1_InvalidSeat m2_InvalidSeat m3_InvalidSeat m5_InvalidSeat "ValueError.__new__"))
    (sa_InvalidSeat : PySem.W.findIn K (.ref C_InvalidSeat) "__setattr__" = some (some (.builtin "object.__setattr__")))
    (ga_InvalidSeat : PySem.W.findIn K (.ref C_InvalidSeat) "__getattribute__" = some (some (.builtin "BaseException.__getattribute__")))
    (gg_InvalidSeat : PySem.W.findIn K (.ref C_InvalidSeat) "__getattr__" = some none)
    (ti_InvalidSeat : PySem.W.typeIn K (.ref f3) = some (.type "function"))
    (kc_InvalidSeat : PySem.W.keepIn K (.ref C_InvalidSeat) = true)
    (ex_InvalidSeat : PySem.W.subIn K (.ref C_InvalidSeat) (.type "BaseException") = some true)
    (ty_InvalidSeat : PySem.W.typeIn K (.ref C_InvalidSeat) = some (.type "type"))
    (hd_InvalidSeat : PySem.W.hasDictIn K C_InvalidSeat = true)
    (il_InvalidSeat : PySem.W.isClsIn K C_InvalidSeat = true)
    (ss_InvalidSeat : PySem.W.subIn K (.ref C_InvalidSeat) (.ref C_InvalidSeat) = some true)
    (ss_InvalidSeat_SeatError : PySem.W.subIn K (.ref C_InvalidSeat) (.ref C_SeatError) = some true)
    (so_InvalidSeat_InvalidTable : PySem.W.subIn K (.ref C_InvalidSeat) (.ref C_InvalidTable) = some false)
    (so_InvalidSeat_InvalidTargets : PySem.W.subIn K (.ref C_InvalidSeat) (.ref C_InvalidTargets) = some false)
    (n_InvalidSeat_seat : PySem.W.findIn K (.ref C_InvalidSeat) "seat" = some none)
    (xl_InvalidMoves : K.lookup C_InvalidMoves = some (excClassObj nm_InvalidMoves q_InvalidMoves C_InvalidMoves N_InvalidMoves bs_InvalidMoves [.ref B_InvalidMoves, .type "ValueError", .type "Exception", .type "BaseException", .type "object"] true sn_InvalidMoves sub_InvalidMoves ab_InvalidMoves col_InvalidMoves dd_InvalidMoves m0_InvalidMoves m1_InvalidMoves m2_InvalidMoves m3_InvalidMoves m5_InvalidMoves "ValueError.__new__"))
    (sa_InvalidMoves : PySem.W.findIn K (.ref C_InvalidMoves) "__setattr__" = some (some (.builtin "object.__setattr__")))
    (ga_InvalidMoves : PySem.W.findIn K (.ref C_InvalidMoves) "__getattribute__" = some (some (.builtin "BaseException.__getattribute__")))
    (gg_InvalidMoves : PySem.W.findIn K (.ref C_InvalidMoves) "__getattr__" = some none)
    (ti_InvalidMoves : PySem.W.typeIn K (.ref f4) = some (.type "function"))
    (kc_InvalidMoves : PySem.W.keepIn K (.ref C_InvalidMoves) = true)
    (ex_InvalidMoves : PySem.W.subIn K (.ref C_InvalidMoves) (.type "BaseException") = some true)
    (ty_InvalidMoves : PySem.W.typeIn K (.ref C_InvalidMoves) = some (.type "type"))
    (hd_InvalidMoves : PySem.W.hasDictIn K C_InvalidMoves = true)
    (il_InvalidMoves : PySem.W.isClsIn K C_InvalidMoves = true)
    (ss_InvalidMoves : PySem.W.subIn K (.ref C_InvalidMoves) (.ref C_InvalidMoves) = some true)
    (ss_InvalidMoves_SeatError : PySem.W.subIn K (.ref C_InvalidMoves) (.ref C_SeatError) = some true)
    (so_InvalidMoves_InvalidTable : PySem.W.subIn K (.ref C_InvalidMoves) (.ref C_InvalidTable) = some false)
    (so_InvalidMoves_InvalidTargets : PySem.W.subIn K (.ref C_InvalidMoves) (.ref C_InvalidTargets) = some false)
    (so_InvalidMoves_InvalidSeat : PySem.W.subIn K (.ref C_InvalidMoves) (.ref C_InvalidSeat) = some false)
    (n_InvalidMoves_index : PySem.W.findIn K (.ref C_InvalidMoves) "index" = some none)
    (xl_TooLarge : K.lookup C_TooLarge = some (excClassObj nm_TooLarge q_TooLarge C_TooLarge N_TooLarge bs_TooLarge [.ref B_TooLarge, .type "ValueError", .type "Exception", .type "BaseException", .type "object"] true sn_TooLarge sub_TooLarge ab_TooLarge col_TooLarge dd_TooLarge m0_TooLarge m1_TooLarge m2_TooLarge m3_TooLarge m5_TooLarge "ValueError.__new__"))
    (sa_TooLarge : PySem.W.findIn K (.ref C_TooLarge) "__setattr__" = some (some (.builtin "object.__setattr__")))
    (ga_TooLarge : PySem.W.findIn K (.ref C_TooLarge) "__getattribute__" = some (some (.builtin "BaseException.__getattribute__")))
    (gg_TooLarge : PySem.W.findIn K (.ref C_TooLarge) "__getattr__" = some none)
    (ti_TooLarge : PySem.W.typeIn K (.ref f5) = some (.type "function"))
    (kc_TooLarge : PySem.W.keepIn K (.ref C_TooLarge) = true)
    (ex_TooLarge : PySem.W.subIn K (.ref C_TooLarge) (.type "BaseException") = some true)
    (ty_TooLarge : PySem.W.typeIn K (.ref C_TooLarge) = some (.type "type"))
    (hd_TooLarge : PySem.W.hasDictIn K C_TooLarge = true)
    (il_TooLarge : PySem.W.isClsIn K C_TooLarge = true)
    (ss_TooLarge : PySem.W.subIn K (.ref C_TooLarge) (.ref C_TooLarge) = some true)
    (ss_TooLarge_SeatError : PySem.W.subIn K (.ref C_TooLarge) (.ref C_SeatError) = some true)
    (so_TooLarge_InvalidTable : PySem.W.subIn K (.ref C_TooLarge) (.ref C_InvalidTable) = some false)
    (so_TooLarge_InvalidTargets : PySem.W.subIn K (.ref C_TooLarge) (.ref C_InvalidTargets) = some false)
    (so_TooLarge_InvalidSeat : PySem.W.subIn K (.ref C_TooLarge) (.ref C_InvalidSeat) = some false)
    (so_TooLarge_InvalidMoves : PySem.W.subIn K (.ref C_TooLarge) (.ref C_InvalidMoves) = some false)
    (n_TooLarge_limit : PySem.W.findIn K (.ref C_TooLarge) "limit" = some none)
    (pg_Table : PySem.W.plainGet K C_Table Str.empty = true)
    (hd_Table : PySem.W.hasDictIn K C_Table = true)
    (po_Table : PySem.W.plainOver K C_Table = true)
    (sa_Table : PySem.W.findIn K (.ref C_Table) "__setattr__" = some (some (.builtin "object.__setattr__")))
    (mk_Table : PySem.W.makesIn K C_Table = true)
    (kc_Table : PySem.W.keepIn K (.ref C_Table) = true)
    (n_Table_rings : PySem.W.findIn K (.ref C_Table) "rings" = some none)
    (ic_Table : PySem.W.findIn K (.ref C_Table) "__class__" = some (some (.builtin "object.__class__")))
    (im_Table : PySem.W.mroIn K C_Table (.type "object") = some true)
    (pg_Record : PySem.W.plainGet K C_Record Str.empty = true)
    (hd_Record : PySem.W.hasDictIn K C_Record = true)
    (po_Record : PySem.W.plainOver K C_Record = true)
    (sa_Record : PySem.W.findIn K (.ref C_Record) "__setattr__" = some (some (.builtin "object.__setattr__")))
    (mk_Record : PySem.W.makesIn K C_Record = true)
    (kc_Record : PySem.W.keepIn K (.ref C_Record) = true)
    (n_Record_visited : PySem.W.findIn K (.ref C_Record) "visited" = some none)
    (n_Record_table : PySem.W.findIn K (.ref C_Record) "table" = some none)
    (n_Record_goals : PySem.W.findIn K (.ref C_Record) "goals" = some none)
    (n_Record_played : PySem.W.findIn K (.ref C_Record) "played" = some none)
    (ig_ : PySem.W.specialIn K (.builtin "object.__class__") "__get__" = some (some (.builtin "getset_descriptor.__get__")))
    (it_ : PySem.W.takesIn K (.builtin "object.__class__") = some true)
    (ki_list_Table : PySem.W.kitAny K (.type "list") [.ref C_Table] = some false)
    (ki_tuple_Table : PySem.W.kitAny K (.type "tuple") [.ref C_Table] = some false)
    (ki_int_Table : PySem.W.kitAny K (.type "int") [.ref C_Table] = some false)
    (ki_bool_Table : PySem.W.kitAny K (.type "bool") [.ref C_Table] = some false)
    (ki_str_Table : PySem.W.kitAny K (.type "str") [.ref C_Table] = some false)
    (ki_dict_Table : PySem.W.kitAny K (.type "dict") [.ref C_Table] = some false)
    (ki_NoneType_Table : PySem.W.kitAny K (.type "NoneType") [.ref C_Table] = some false)
    (v_MAX_RINGS : PySem.W.nsIn K mainGlobals "MAX_RINGS" = some (some (.int 4 t_MAX_RINGS)))
    (v_SMALL : PySem.W.nsIn K mainGlobals "SMALL" = some (some (.int 300 t_SMALL)))
    (z_abs : PySem.W.nsIn K mainGlobals "abs" = some none)
    (z_all : PySem.W.nsIn K mainGlobals "all" = some none)
    (z_any : PySem.W.nsIn K mainGlobals "any" = some none)
    (z_bool : PySem.W.nsIn K mainGlobals "bool" = some none)
    (z_enumerate : PySem.W.nsIn K mainGlobals "enumerate" = some none)
    (z_int : PySem.W.nsIn K mainGlobals "int" = some none)
    (z_isinstance : PySem.W.nsIn K mainGlobals "isinstance" = some none)
    (z_len : PySem.W.nsIn K mainGlobals "len" = some none)
    (z_list : PySem.W.nsIn K mainGlobals "list" = some none)
    (z_max : PySem.W.nsIn K mainGlobals "max" = some none)
    (z_range : PySem.W.nsIn K mainGlobals "range" = some none)
    (z_repr : PySem.W.nsIn K mainGlobals "repr" = some none)
    (z_str : PySem.W.nsIn K mainGlobals "str" = some none)
    (z_sum : PySem.W.nsIn K mainGlobals "sum" = some none)
    (z_tuple : PySem.W.nsIn K mainGlobals "tuple" = some none)
    (z_zip : PySem.W.nsIn K mainGlobals "zip" = some none)
    : ∃ T : TX K mg, mg "law" = some (.ref T.f_law) ∧ ∀ (s : Shared) (v : Value), BindsTo s T.fd_law ⟨[v], []⟩ [("_law_script", v)] := by
  obtain ⟨T, h1, h2⟩ := all_mk X G aC_SeatError ex_SeatError ty_SeatError il_SeatError aC_InvalidTable aC_InvalidTargets aC_InvalidSeat aC_InvalidMoves aC_TooLarge aC_Table aC_Record a0 l0 c0 k0 a1 i1 l1 c1 k1 a2 i2 l2 c2 k2 a3 i3 l3 c3 k3 a4 i4 l4 c4 k4 a5 i5 l5 c5 k5 a6 l6 c6 k6 a7 l7 c7 k7 a8 l8 c8 k8 a9 l9 c9 k9 a10 i10 l10 c10 k10 a11 i11 l11 c11 k11 a12 i12 l12 c12 k12 a13 i13 l13 c13 k13 a14 i14 l14 c14 k14 a15 i15 l15 c15 k15 a16 i16 l16 c16 k16 a17 i17 l17 c17 k17 a18 i18 l18 c18 k18 a19 i19 l19 c19 k19 a20 l20 c20 k20 a21 l21 c21 k21 a22 l22 c22 k22 a23 l23 c23 k23 a24 l24 c24 k24 a25 l25 c25 k25 a26 l26 c26 k26 a27 l27 c27 k27 a28 l28 c28 k28 a29 l29 c29 k29 a30 l30 c30 k30 a31 l31 c31 k31 a32 l32 c32 k32 a33 l33 c33 k33 a34 l34 c34 k34 a35 l35 c35 k35 a36 i36 l36 c36 k36 a37 i37 l37 c37 k37 a38 i38 l38 c38 k38 a39 i39 l39 c39 k39 a40 i40 l40 c40 k40 a41 l41 c41 k41 a42 l42 c42 k42 a43 l43 c43 k43 a44 l44 c44 k44 a45 l45 c45 k45 a46 l46 c46 k46 a47 l47 c47 k47 a48 l48 c48 k48 a49 l49 c49 k49 a50 l50 c50 k50 a51 l51 c51 k51 a52 l52 c52 k52 a53 l53 c53 k53 a54 l54 c54 k54 a55 l55 c55 k55 a56 l56 c56 k56 a57 l57 c57 k57 a58 l58 c58 k58 a59 l59 c59 k59 a60 l60 c60 k60 a61 l61 c61 k61 a62 l62 c62 k62 xl_InvalidTable sa_InvalidTable ga_InvalidTable gg_InvalidTable ti_InvalidTable kc_InvalidTable ex_InvalidTable ty_InvalidTable hd_InvalidTable il_InvalidTable ss_InvalidTable ss_InvalidTable_SeatError n_InvalidTable_rings xl_InvalidTargets sa_InvalidTargets ga_InvalidTargets gg_InvalidTargets ti_InvalidTargets kc_InvalidTargets ex_InvalidTargets ty_InvalidTargets hd_InvalidTargets il_InvalidTargets ss_InvalidTargets ss_InvalidTargets_SeatError so_InvalidTargets_InvalidTable n_InvalidTargets_index xl_InvalidSeat sa_InvalidSeat ga_InvalidSeat gg_InvalidSeat ti_InvalidSeat kc_InvalidSeat ex_InvalidSeat ty_InvalidSeat hd_InvalidSeat il_InvalidSeat ss_InvalidSeat ss_InvalidSeat_SeatError so_InvalidSeat_InvalidTable so_InvalidSeat_InvalidTargets n_InvalidSeat_seat xl_InvalidMoves sa_InvalidMoves ga_InvalidMoves gg_InvalidMoves ti_InvalidMoves kc_InvalidMoves ex_InvalidMoves ty_InvalidMoves hd_InvalidMoves il_InvalidMoves ss_InvalidMoves ss_InvalidMoves_SeatError so_InvalidMoves_InvalidTable so_InvalidMoves_InvalidTargets so_InvalidMoves_InvalidSeat n_InvalidMoves_index xl_TooLarge sa_TooLarge ga_TooLarge gg_TooLarge ti_TooLarge kc_TooLarge ex_TooLarge ty_TooLarge hd_TooLarge il_TooLarge ss_TooLarge ss_TooLarge_SeatError so_TooLarge_InvalidTable so_TooLarge_InvalidTargets so_TooLarge_InvalidSeat so_TooLarge_InvalidMoves n_TooLarge_limit pg_Table hd_Table po_Table sa_Table mk_Table kc_Table n_Table_rings ic_Table im_Table pg_Record hd_Record po_Record sa_Record mk_Record kc_Record n_Record_visited n_Record_table n_Record_goals n_Record_played ig_ it_ ki_list_Table ki_tuple_Table ki_int_Table ki_bool_Table ki_str_Table ki_dict_Table ki_NoneType_Table v_MAX_RINGS v_SMALL z_abs z_all z_any z_bool z_enumerate z_int z_isinstance z_len z_list z_max z_range z_repr z_str z_sum z_tuple z_zip
  exact ⟨T, T.m_law, fun s v => by rw [h2]; exact .of_eq rfl⟩
end CS
open PySem PySem.W PyProof.Rows in
set_option maxRecDepth 100000 in
set_option maxHeartbeats 0 in
theorem PySem.Challenge.cw_calledseats_k42_invalid_records_holds : PySem.Challenge.rw_calledseats_k42_invalid_records.Holds := by
  w_on; o_law; k_head; (case hw => w_witness2)
  k_fill
  refine CG.walk_ofGT (l := PySem.Challenge.rw_calledseats_k42_invalid_records) (n := 63) (k := 13) (x := "_law_script") rfl (by decide) rfl ⟨rfl, by decide, by decide⟩ ?F
  case F =>
    intro w mg fa h Y G hmg tabs seer
    have KX := PySem.W.km_in_of Y
    obtain ⟨T, e1, e2⟩ : ∃ T : CS.TX _ mg, mg "law" = some (.ref T.f_law) ∧ ∀ (s : Shared) (v : Value), BindsTo s T.fd_law ⟨[v], []⟩ [("_law_script", v)] := by
      refine' CS.use_mk KX G ?aC_SeatError ?ex_SeatError ?ty_SeatError ?il_SeatError ?aC_InvalidTable ?aC_InvalidTargets ?aC_InvalidSeat ?aC_InvalidMoves ?aC_TooLarge ?aC_Table ?aC_Record ?a0 ?l0 ?c0 ?k0 ?a1 ?i1 ?l1 ?c1 ?k1 ?a2 ?i2 ?l2 ?c2 ?k2 ?a3 ?i3 ?l3 ?c3 ?k3 ?a4 ?i4 ?l4 ?c4 ?k4 ?a5 ?i5 ?l5 ?c5 ?k5 ?a6 ?l6 ?c6 ?k6 ?a7 ?l7 ?c7 ?k7 ?a8 ?l8 ?c8 ?k8 ?a9 ?l9 ?c9 ?k9 ?a10 ?i10 ?l10 ?c10 ?k10 ?a11 ?i11 ?l11 ?c11 ?k11 ?a12 ?i12 ?l12 ?c12 ?k12 ?a13 ?i13 ?l13 ?c13 ?k13 ?a14 ?i14 ?l14 ?c14 ?k14 ?a15 ?i15 ?l15 ?c15 ?k15 ?a16 ?i16 ?l16 ?c16 ?k16 ?a17 ?i17 ?l17 ?c17 ?k17 ?a18 ?i18 ?l18 ?c18 ?k18 ?a19 ?i19 ?l19 ?c19 ?k19 ?a20 ?l20 ?c20 ?k20 ?a21 ?l21 ?c21 ?k21 ?a22 ?l22 ?c22 ?k22 ?a23 ?l23 ?c23 ?k23 ?a24 ?l24 ?c24 ?k24 ?a25 ?l25 ?c25 ?k25 ?a26 ?l26 ?c26 ?k26 ?a27 ?l27 ?c27 ?k27 ?a28 ?l28 ?c28 ?k28 ?a29 ?l29 ?c29 ?k29 ?a30 ?l30 ?c30 ?k30 ?a31 ?l31 ?c31 ?k31 ?a32 ?l32 ?c32 ?k32 ?a33 ?l33 ?c33 ?k33 ?a34 ?l34 ?c34 ?k34 ?a35 ?l35 ?c35 ?k35 ?a36 ?i36 ?l36 ?c36 ?k36 ?a37 ?i37 ?l37 ?c37 ?k37 ?a38 ?i38 ?l38 ?c38 ?k38 ?a39 ?i39 ?l39 ?c39 ?k39 ?a40 ?i40 ?l40 ?c40 ?k40 ?a41 ?l41 ?c41 ?k41 ?a42 ?l42 ?c42 ?k42 ?a43 ?l43 ?c43 ?k43 ?a44 ?l44 ?c44 ?k44 ?a45 ?l45 ?c45 ?k45 ?a46 ?l46 ?c46 ?k46 ?a47 ?l47 ?c47 ?k47 ?a48 ?l48 ?c48 ?k48 ?a49 ?l49 ?c49 ?k49 ?a50 ?l50 ?c50 ?k50 ?a51 ?l51 ?c51 ?k51 ?a52 ?l52 ?c52 ?k52 ?a53 ?l53 ?c53 ?k53 ?a54 ?l54 ?c54 ?k54 ?a55 ?l55 ?c55 ?k55 ?a56 ?l56 ?c56 ?k56 ?a57 ?l57 ?c57 ?k57 ?a58 ?l58 ?c58 ?k58 ?a59 ?l59 ?c59 ?k59 ?a60 ?l60 ?c60 ?k60 ?a61 ?l61 ?c61 ?k61 ?a62 ?l62 ?c62 ?k62 ?xl_InvalidTable ?sa_InvalidTable ?ga_InvalidTable ?gg_InvalidTable ?ti_InvalidTable ?kc_InvalidTable ?ex_InvalidTable ?ty_InvalidTable ?hd_InvalidTable ?il_InvalidTable ?ss_InvalidTable ?ss_InvalidTable_SeatError ?n_InvalidTable_rings ?xl_InvalidTargets ?sa_InvalidTargets ?ga_InvalidTargets ?gg_InvalidTargets ?ti_InvalidTargets ?kc_InvalidTargets ?ex_InvalidTargets ?ty_InvalidTargets ?hd_InvalidTargets ?il_InvalidTargets ?ss_InvalidTargets ?ss_InvalidTargets_SeatError ?so_InvalidTargets_InvalidTable ?n_InvalidTargets_index ?xl_InvalidSeat ?sa_InvalidSeat ?ga_InvalidSeat ?gg_InvalidSeat ?ti_InvalidSeat ?kc_InvalidSeat ?ex_InvalidSeat ?ty_InvalidSeat ?hd_InvalidSeat ?il_InvalidSeat ?ss_InvalidSeat ?ss_InvalidSeat_SeatError ?so_InvalidSeat_InvalidTable ?so_InvalidSeat_InvalidTargets ?n_InvalidSeat_seat ?xl_InvalidMoves ?sa_InvalidMoves ?ga_InvalidMoves ?gg_InvalidMoves ?ti_InvalidMoves ?kc_InvalidMoves ?ex_InvalidMoves ?ty_InvalidMoves ?hd_InvalidMoves ?il_InvalidMoves ?ss_InvalidMoves ?ss_InvalidMoves_SeatError ?so_InvalidMoves_InvalidTable ?so_InvalidMoves_InvalidTargets ?so_InvalidMoves_InvalidSeat ?n_InvalidMoves_index ?xl_TooLarge ?sa_TooLarge ?ga_TooLarge ?gg_TooLarge ?ti_TooLarge ?kc_TooLarge ?ex_TooLarge ?ty_TooLarge ?hd_TooLarge ?il_TooLarge ?ss_TooLarge ?ss_TooLarge_SeatError ?so_TooLarge_InvalidTable ?so_TooLarge_InvalidTargets ?so_TooLarge_InvalidSeat ?so_TooLarge_InvalidMoves ?n_TooLarge_limit ?pg_Table ?hd_Table ?po_Table ?sa_Table ?mk_Table ?kc_Table ?n_Table_rings ?ic_Table ?im_Table ?pg_Record ?hd_Record ?po_Record ?sa_Record ?mk_Record ?kc_Record ?n_Record_visited ?n_Record_table ?n_Record_goals ?n_Record_played ?ig_ ?it_ ?ki_list_Table ?ki_tuple_Table ?ki_int_Table ?ki_bool_Table ?ki_str_Table ?ki_dict_Table ?ki_NoneType_Table ?v_MAX_RINGS ?v_SMALL ?z_abs ?z_all ?z_any ?z_bool ?z_enumerate ?z_int ?z_isinstance ?z_len ?z_list ?z_max ?z_range ?z_repr ?z_str ?z_sum ?z_tuple ?z_zip
      (case aC_SeatError => k_is)
      (case ex_SeatError => k_is)
      (case ty_SeatError => k_is)
      (case il_SeatError => k_is)
      (case aC_InvalidTable => k_is)
      (case aC_InvalidTargets => k_is)
      (case aC_InvalidSeat => k_is)
      (case aC_InvalidMoves => k_is)
      (case aC_TooLarge => k_is)
      (case aC_Table => k_is)
      (case aC_Record => k_is)
      (case a0 => k_is)
      (case l0 => k_is)
      (case c0 => k_is)
      (case k0 => k_is)
      (case a1 => k_is)
      (case i1 => k_is)
      (case l1 => k_is)
      (case c1 => k_is)
      (case k1 => k_is)
      (case a2 => k_is)
      (case i2 => k_is)
      (case l2 => k_is)
      (case c2 => k_is)
      (case k2 => k_is)
      (case a3 => k_is)
      (case i3 => k_is)
      (case l3 => k_is)
      (case c3 => k_is)
      (case k3 => k_is)
      (case a4 => k_is)
      (case i4 => k_is)
      (case l4 => k_is)
      (case c4 => k_is)
      (case k4 => k_is)
      (case a5 => k_is)
      (case i5 => k_is)
      (case l5 => k_is)
      (case c5 => k_is)
      (case k5 => k_is)
      (case a6 => k_is)
      (case l6 => k_is)
      (case c6 => k_is)
      (case k6 => k_is)
      (case a7 => k_is)
      (case l7 => k_is)
      (case c7 => k_is)
      (case k7 => k_is)
      (case a8 => k_is)
      (case l8 => k_is)
      (case c8 => k_is)
      (case k8 => k_is)
      (case a9 => k_is)
      (case l9 => k_is)
      (case c9 => k_is)
      (case k9 => k_is)
      (case a10 => k_is)
      (case i10 => k_is)
      (case l10 => k_is)
      (case c10 => k_is)
      (case k10 => k_is)
      (case a11 => k_is)
      (case i11 => k_is)
      (case l11 => k_is)
      (case c11 => k_is)
      (case k11 => k_is)
      (case a12 => k_is)
      (case i12 => k_is)
      (case l12 => k_is)
      (case c12 => k_is)
      (case k12 => k_is)
      (case a13 => k_is)
      (case i13 => k_is)
      (case l13 => k_is)
      (case c13 => k_is)
      (case k13 => k_is)
      (case a14 => k_is)
      (case i14 => k_is)
      (case l14 => k_is)
      (case c14 => k_is)
      (case k14 => k_is)
      (case a15 => k_is)
      (case i15 => k_is)
      (case l15 => k_is)
      (case c15 => k_is)
      (case k15 => k_is)
      (case a16 => k_is)
      (case i16 => k_is)
      (case l16 => k_is)
      (case c16 => k_is)
      (case k16 => k_is)
      (case a17 => k_is)
      (case i17 => k_is)
      (case l17 => k_is)
      (case c17 => k_is)
      (case k17 => k_is)
      (case a18 => k_is)
      (case i18 => k_is)
      (case l18 => k_is)
      (case c18 => k_is)
      (case k18 => k_is)
      (case a19 => k_is)
      (case i19 => k_is)
      (case l19 => k_is)
      (case c19 => k_is)
      (case k19 => k_is)
      (case a20 => k_is)
      (case l20 => k_is)
      (case c20 => k_is)
      (case k20 => k_is)
      (case a21 => k_is)
      (case l21 => k_is)
      (case c21 => k_is)
      (case k21 => k_is)
      (case a22 => k_is)
      (case l22 => k_is)
      (case c22 => k_is)
      (case k22 => k_is)
      (case a23 => k_is)
      (case l23 => k_is)
      (case c23 => k_is)
      (case k23 => k_is)
      (case a24 => k_is)
      (case l24 => k_is)
      (case c24 => k_is)
      (case k24 => k_is)
      (case a25 => k_is)
      (case l25 => k_is)
      (case c25 => k_is)
      (case k25 => k_is)
      (case a26 => k_is)
      (case l26 => k_is)
      (case c26 => k_is)
      (case k26 => k_is)
      (case a27 => k_is)
      (case l27 => k_is)
      (case c27 => k_is)
      (case k27 => k_is)
      (case a28 => k_is)
      (case l28 => k_is)
      (case c28 => k_is)
      (case k28 => k_is)
      (case a29 => k_is)
      (case l29 => k_is)
      (case c29 => k_is)
      (case k29 => k_is)
      (case a30 => k_is)
      (case l30 => k_is)
      (case c30 => k_is)
      (case k30 => k_is)
      (case a31 => k_is)
      (case l31 => k_is)
      (case c31 => k_is)
      (case k31 => k_is)
      (case a32 => k_is)
      (case l32 => k_is)
      (case c32 => k_is)
      (case k32 => k_is)
      (case a33 => k_is)
      (case l33 => k_is)
      (case c33 => k_is)
      (case k33 => k_is)
      (case a34 => k_is)
      (case l34 => k_is)
      (case c34 => k_is)
      (case k34 => k_is)
      (case a35 => k_is)
      (case l35 => k_is)
      (case c35 => k_is)
      (case k35 => k_is)
      (case a36 => k_is)
      (case i36 => k_is)
      (case l36 => k_is)
      (case c36 => k_is)
      (case k36 => k_is)
      (case a37 => k_is)
      (case i37 => k_is)
      (case l37 => k_is)
      (case c37 => k_is)
      (case k37 => k_is)
      (case a38 => k_is)
      (case i38 => k_is)
      (case l38 => k_is)
      (case c38 => k_is)
      (case k38 => k_is)
      (case a39 => k_is)
      (case i39 => k_is)
      (case l39 => k_is)
      (case c39 => k_is)
      (case k39 => k_is)
      (case a40 => k_is)
      (case i40 => k_is)
      (case l40 => k_is)
      (case c40 => k_is)
      (case k40 => k_is)
      (case a41 => k_is)
      (case l41 => k_is)
      (case c41 => k_is)
      (case k41 => k_is)
      (case a42 => k_is)
      (case l42 => k_is)
      (case c42 => k_is)
      (case k42 => k_is)
      (case a43 => k_is)
      (case l43 => k_is)
      (case c43 => k_is)
      (case k43 => k_is)
      (case a44 => k_is)
      (case l44 => k_is)
      (case c44 => k_is)
      (case k44 => k_is)
      (case a45 => k_is)
      (case l45 => k_is)
      (case c45 => k_is)
      (case k45 => k_is)
      (case a46 => k_is)
      (case l46 => k_is)
      (case c46 => k_is)
      (case k46 => k_is)
      (case a47 => k_is)
      (case l47 => k_is)
      (case c47 => k_is)
      (case k47 => k_is)
      (case a48 => k_is)
      (case l48 => k_is)
      (case c48 => k_is)
      (case k48 => k_is)
      (case a49 => k_is)
      (case l49 => k_is)
      (case c49 => k_is)
      (case k49 => k_is)
      (case a50 => k_is)
      (case l50 => k_is)
      (case c50 => k_is)
      (case k50 => k_is)
      (case a51 => k_is)
      (case l51 => k_is)
      (case c51 => k_is)
      (case k51 => k_is)
      (case a52 => k_is)
      (case l52 => k_is)
      (case c52 => k_is)
      (case k52 => k_is)
      (case a53 => k_is)
      (case l53 => k_is)
      (case c53 => k_is)
      (case k53 => k_is)
      (case a54 => k_is)
      (case l54 => k_is)
      (case c54 => k_is)
      (case k54 => k_is)
      (case a55 => k_is)
      (case l55 => k_is)
      (case c55 => k_is)
      (case k55 => k_is)
      (case a56 => k_is)
      (case l56 => k_is)
      (case c56 => k_is)
      (case k56 => k_is)
      (case a57 => k_is)
      (case l57 => k_is)
      (case c57 => k_is)
      (case k57 => k_is)
      (case a58 => k_is)
      (case l58 => k_is)
      (case c58 => k_is)
      (case k58 => k_is)
      (case a59 => k_is)
      (case l59 => k_is)
      (case c59 => k_is)
      (case k59 => k_is)
      (case a60 => k_is)
      (case l60 => k_is)
      (case c60 => k_is)
      (case k60 => k_is)
      (case a61 => k_is)
      (case l61 => k_is)
      (case c61 => k_is)
      (case k61 => k_is)
      (case a62 => k_is)
      (case l62 => k_is)
      (case c62 => k_is)
      (case k62 => k_is)
      (case xl_InvalidTable => k_is)
      (case sa_InvalidTable => k_is)
      (case ga_InvalidTable => k_is)
      (case gg_InvalidTable => k_is)
      (case ti_InvalidTable => k_is)
      (case kc_InvalidTable => k_is)
      (case ex_InvalidTable => k_is)
      (case ty_InvalidTable => k_is)
      (case hd_InvalidTable => k_is)
      (case il_InvalidTable => k_is)
      (case ss_InvalidTable => k_is)
      (case ss_InvalidTable_SeatError => k_is)
      (case n_InvalidTable_rings => k_is)
      (case xl_InvalidTargets => k_is)
      (case sa_InvalidTargets => k_is)
      (case ga_InvalidTargets => k_is)
      (case gg_InvalidTargets => k_is)
      (case ti_InvalidTargets => k_is)
      (case kc_InvalidTargets => k_is)
      (case ex_InvalidTargets => k_is)
      (case ty_InvalidTargets => k_is)
      (case hd_InvalidTargets => k_is)
      (case il_InvalidTargets => k_is)
      (case ss_InvalidTargets => k_is)
      (case ss_InvalidTargets_SeatError => k_is)
      (case so_InvalidTargets_InvalidTable => k_is)
      (case n_InvalidTargets_index => k_is)
      (case xl_InvalidSeat => k_is)
      (case sa_InvalidSeat => k_is)
      (case ga_InvalidSeat => k_is)
      (case gg_InvalidSeat => k_is)
      (case ti_InvalidSeat => k_is)
      (case kc_InvalidSeat => k_is)
      (case ex_InvalidSeat => k_is)
      (case ty_InvalidSeat => k_is)
      (case hd_InvalidSeat => k_is)
      (case il_InvalidSeat => k_is)
      (case ss_InvalidSeat => k_is)
      (case ss_InvalidSeat_SeatError => k_is)
      (case so_InvalidSeat_InvalidTable => k_is)
      (case so_InvalidSeat_InvalidTargets => k_is)
      (case n_InvalidSeat_seat => k_is)
      (case xl_InvalidMoves => k_is)
      (case sa_InvalidMoves => k_is)
      (case ga_InvalidMoves => k_is)
      (case gg_InvalidMoves => k_is)
      (case ti_InvalidMoves => k_is)
      (case kc_InvalidMoves => k_is)
      (case ex_InvalidMoves => k_is)
      (case ty_InvalidMoves => k_is)
      (case hd_InvalidMoves => k_is)
      (case il_InvalidMoves => k_is)
      (case ss_InvalidMoves => k_is)
      (case ss_InvalidMoves_SeatError => k_is)
      (case so_InvalidMoves_InvalidTable => k_is)
      (case so_InvalidMoves_InvalidTargets => k_is)
      (case so_InvalidMoves_InvalidSeat => k_is)
      (case n_InvalidMoves_index => k_is)
      (case xl_TooLarge => k_is)
      (case sa_TooLarge => k_is)
      (case ga_TooLarge => k_is)
      (case gg_TooLarge => k_is)
      (case ti_TooLarge => k_is)
      (case kc_TooLarge => k_is)
      (case ex_TooLarge => k_is)
      (case ty_TooLarge => k_is)
      (case hd_TooLarge => k_is)
      (case il_TooLarge => k_is)
      (case ss_TooLarge => k_is)
      (case ss_TooLarge_SeatError => k_is)
      (case so_TooLarge_InvalidTable => k_is)
      (case so_TooLarge_InvalidTargets => k_is)
      (case so_TooLarge_InvalidSeat => k_is)
      (case so_TooLarge_InvalidMoves => k_is)
      (case n_TooLarge_limit => k_is)
      (case pg_Table => k_is)
      (case hd_Table => k_is)
      (case po_Table => k_is)
      (case sa_Table => k_is)
      (case mk_Table => k_is)
      (case kc_Table => k_is)
      (case n_Table_rings => k_is)
      (case ic_Table => k_is)
      (case im_Table => k_is)
      (case pg_Record => k_is)
      (case hd_Record => k_is)
      (case po_Record => k_is)
      (case sa_Record => k_is)
      (case mk_Record => k_is)
      (case kc_Record => k_is)
      (case n_Record_visited => k_is)
      (case n_Record_table => k_is)
      (case n_Record_goals => k_is)
      (case n_Record_played => k_is)
      (case ig_ => k_is)
      (case it_ => k_is)
      (case ki_list_Table => kit_is)
      (case ki_tuple_Table => kit_is)
      (case ki_int_Table => kit_is)
      (case ki_bool_Table => kit_is)
      (case ki_str_Table => kit_is)
      (case ki_dict_Table => kit_is)
      (case ki_NoneType_Table => kit_is)
      (case v_MAX_RINGS => k_is)
      (case v_SMALL => k_is)
      (case z_abs => k_is)
      (case z_all => k_is)
      (case z_any => k_is)
      (case z_bool => k_is)
      (case z_enumerate => k_is)
      (case z_int => k_is)
      (case z_isinstance => k_is)
      (case z_len => k_is)
      (case z_list => k_is)
      (case z_max => k_is)
      (case z_range => k_is)
      (case z_repr => k_is)
      (case z_str => k_is)
      (case z_sum => k_is)
      (case z_tuple => k_is)
      (case z_zip => k_is)
    have e := hmg.symm.trans e1
    cases e
    obtain ⟨c0, p0, a0, d0, z0⟩ := CG.TabAt.at (CG.tab_by tabs (x := "_law_right") (by decide +kernel)) KX T.m_law_right T.F_law_right
    obtain ⟨c1, p1, a1, d1, z1⟩ := CG.TabAt.at (CG.tab_by tabs (x := "_law_large_right") (by decide +kernel)) KX T.m_law_large_right T.F_law_large_right
    refine ⟨_, T.fd_law, CS.sp_law _ p0 p1, [(c0, p0), (c1, p1)], KX, (fun p hp => by simp only [List.mem_cons, List.not_mem_nil, or_false] at hp; rcases hp with rfl | rfl <;> first | exact z0 | exact z1), ?nt, (fun p hp => by simp only [List.mem_cons, List.not_mem_nil, or_false] at hp; rcases hp with rfl | rfl <;> first | exact d0 | exact d1), e2, (fun H a ns hl hT hS => ⟨a, ns, rfl, hS, hl, hT _ (.head _), hT _ (.tail _ (.head _)), fun _ => rfl⟩), fun base _ _ TB NS => CS.ok_law T ⟨c0, p0, a0, TB _ (.head _), c1, p1, a1, TB _ (.tail _ (.head _)), CG.tabs_ne KX G T.m_law_right T.m_law_large_right T.F_law_right T.F_law_large_right a0 a1 d0 d1 (by kernel_rfl), (seer (by decide +kernel)).mods.elim fun m e => ⟨m, NS _ _ e.1⟩⟩⟩
    intro p hp
    refine CG.noTab_at KX (by kernel_rfl) ?_
    simp only [List.mem_cons, List.not_mem_nil, or_false] at hp; rcases hp with rfl | rfl <;> first | exact z0 | exact z1
