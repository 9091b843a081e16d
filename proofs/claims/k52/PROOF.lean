import PyProof.Rows.All
import Wide.All
import OpenK.AllK
import Wide.FinOn
import HandS.ForMost
import HandS.Zip
import HandS.TupAny
import HandS.TupMul
import HandS.Deep
import HandS.Style
import HandS.Walk
import HandS.IsInst
import HandS.Conv
import HandS.Wide
import HandS.WideBits
import HandS.Evl
import HandS.MakeKwOnly
import KE.GoesMore
import KE.GoesEnumKw
import KE.KBits
import PySem.Challenge.RW_calledseats_k52_two_targets_on_large_rin
set_option Elab.async false
set_option linter.all false
set_option maxRecDepth 100000
set_option maxHeartbeats 4000000


namespace CZ
open PySem PySem.Spec PyProof.Rows L2
open PySem.Sem (wp)
/-- one draw of a zip: strict or not -/
def zdraw (b : Bool) (it : Value) : Sem (Option Value) := if b = true then Builtin.SmallTypes.nextOrEnd it else (Builtin.SmallTypes.nextOf it >>= fun x => pure (some x))
/-- a zip object: f0 what it has handed out, b its strictness -/
abbrev ZipO (h : Heap) (z TI TO : Addr) (f0 : Value) (b : Bool) : Prop := h.get? z = some { cls := .type "zip", data := .fields #[f0, .bool false, .bool b, .ref TI, .ref TO] }
abbrev TupO (h : Heap) (T : Addr) (vs : Array Value) : Prop := h.get? T = some { cls := .type "tuple", data := .seq vs }
theorem val_b (b : Bool) : (Value.bool b == Value.bool true) = b := by cases b <;> rfl
section
variable {prog : Program} {w : World} {A : Around} {E : Value → Shared → Prop} {s : Shared} {b : Bool}
theorem zdraw_item {it : Addr} {fp : List Addr} {n i : Nat} {P : Nat → Value → Prop} {St : Nat → Heap → Prop} {Q : Option Value → Shared → Prop} (D : Draws prog w A it fp n P St) (hi : i < n) (st : St i s.heap)
    (hQ : ∀ x h' tk, P i x → St (i + 1) h' → Heap.SameBut it s.heap h' → Q (some x) { s with heap := h', toks := tk }) : wpAny (model prog w) A (zdraw b (.ref it)) Q E s := by
  cases b with
  | false => exact wpAny_bind (m := Builtin.SmallTypes.nextOf (.ref it)) (D.item i s _ _ hi st fun x h' tk p st' sb => wpAny_pure (hQ x h' tk p st' sb))
  | true =>
    show wpAny _ _ (Builtin.SmallTypes.nextOrEnd (.ref it)) _ _ _
    unfold Builtin.SmallTypes.nextOrEnd
    exact wpAny_bind (wpAny_attempt (D.item i s _ _ hi st fun x h' tk p st' sb => wpAny_pure (hQ x h' tk p st' sb)))
theorem zend_strict {it : Addr} {fp : List Addr} {n : Nat} {P : Nat → Value → Prop} {St : Nat → Heap → Prop} {Q : Option Value → Shared → Prop} (D : Draws prog w A it fp n P St) (st : St n s.heap)
    (hQ : ∀ h', Heap.ExtBut it s.heap h' → Q none { s with heap := h' }) : wpAny (model prog w) A (Builtin.SmallTypes.nextOrEnd (.ref it)) Q E s := by
  unfold Builtin.SmallTypes.nextOrEnd
  refine wpAny_bind (wpAny_attempt (D.done s _ _ st fun h' e eb he => ?_))
  obtain ⟨o, ho, hc⟩ := he
  exact wpAny_bind (wpAny_isInstance (T := "StopIteration") (b := true) ⟨o, ho, hc⟩ isSubtype_stop (wpAny_pure (hQ h' eb)))
theorem upd_tup {T : Addr} {vs : Array Value} {x : Value} {k : Nat} {Q : Unit → Shared → Prop} (hT : TupO s.heap T vs) (hz : vs.size ≤ 8)
    (h : ∀ h', TupO h' T (vs.setIfInBounds k x) → Heap.SameBut T s.heap h' → Q () { s with heap := h' }) : wpAny (model prog w) A (updateSeq T (·.setIfInBounds k x)) Q E s := by
  have z8 : (8 : Nat) ≤ sizeLine := by decide
  refine wpAny_updateSeq hT rfl (h _ ?_ (Heap.SameBut.update ..)) (Nat.le_trans hz z8) (by rw [Array.size_setIfInBounds]; exact Nat.le_succ_of_le (Nat.le_trans hz z8))
  unfold TupO
  rw [Heap.get?_update_self _ hT rfl]
  simp [Obj.mapSeq]
theorem iter_zip {z TI TO : Addr} {f0 : Value} {Q : Value → Shared → Prop} (hz : ZipO s.heap z TI TO f0 b) (h : Q (.ref z) s) : wpAny (model prog w) A (pyIter (.ref z)) Q E s := by
  have hT : s.TypeIs (.ref z) "zip" := ⟨_, hz, rfl⟩
  exact wpAny_pyIter_slot hT F.slot_zip_iter (wpAny_call_entry F.slot_zip_iter hT F.entry_zip_iter (wpAny_pure ⟨_, rfl, "zip", _, hT, F.slot_zip_next.lookup, h⟩) (F.args_zip_iter_1 _))
/-- the tuple that was handed out is let go -/
theorem go_zip {elts : List Expr} {x1} {pos : Pos} {z TI TO T : Addr} {Q : Unit → Shared → Prop} (hz : ZipO s.heap z TI TO (rawInt T) b)
    (hQ : ∀ h', ZipO h' z TI TO .none b → Heap.SameBut z s.heap h' → Q () { s with heap := h' }) : wpAny (model prog w) A (letOwnedTupleGo (.Tuple elts x1 pos) (.ref z) (.ref T)) Q E s := by
  unfold letOwnedTupleGo
  refine wpAny_bind (wpAny_load hz ?_)
  show wpAny _ _ (ite _ _ _) Q E s
  rw [if_pos (by simp)]
  exact wpAny_bind (wpAny_rule (wpAny_setField_rec hz (by simp) fun h' hz' hs' => hQ h' hz' hs'))
/-- the StopIteration that a zip ends by -/
theorem stop_it {Q : Fin → Shared → Prop} (hh : A.handled = none) (hE : ∀ h' e, (∀ c o, s.heap.get? c = some o → h'.get? c = some o) → (∃ o, h'.get? e = some o ∧ o.cls = .type "StopIteration") → E (.ref e) { s with heap := h' }) :
    wpAny (model prog w) A (PySem.Builtin.SmallTypes.stopIteration : Sem Fin) Q E s := by
  unfold PySem.Builtin.SmallTypes.stopIteration
  show wpAny _ _ (newExc (.type "StopIteration") [] >>= _) _ _ _
  refine wpAny_bind ?_
  simp only [newExc, newTuple]
  refine wpAny_bind (wpAny_newObj_type ?_ (by size_fits))
  refine wpAny_bind (m := firstArgMember _ _) (wpAny_of_eq (a := Value.none) (by first | rfl | (simp only [firstArgMember]; rfl)) ?_)
  refine wpAny_newObj_type ?_ (by size_fits)
  simp only [raiseNew]
  refine wpAny_bind (wpAny_handled ?_)
  rw [hh]
  exact wpAny_bind (wpAny_pure (wpAny_throw (hE _ _ (fun c o e => Heap.get?_push_of_some _ (Heap.get?_push_of_some _ e)) ⟨_, Heap.get?_push_size _ rfl, rfl⟩)))
end
end CZ

namespace CZ
open PySem PySem.Spec PyProof.Rows L2
open PySem.Sem (wp)
/-- the cells of a zip over 2 iterators lie apart -/
structure Sep2 (z TI TO i1 i2 : Addr) (fp1 fp2 : List Addr) : Prop where
  zTO : z ≠ TO
  zTI : z ≠ TI
  TOTI : TO ≠ TI
  m1 : i1 ∈ fp1
  z1 : z ∉ fp1
  T1 : TO ∉ fp1
  I1 : TI ≠ i1
  s2_1 : i2 ∉ fp1
  m2 : i2 ∈ fp2
  z2 : z ∉ fp2
  T2 : TO ∉ fp2
  I2 : TI ≠ i2
  s1_2 : i1 ∉ fp2
section
variable {prog : Program} {w : World} {A : Around} {E : Value → Shared → Prop} {s : Shared} {b : Bool}
theorem next_item2 {z TI TO i1 i2 : Addr} {fp1 fp2 : List Addr} {n1 n2 i : Nat} {P1 P2 : Nat → Value → Prop} {St1 St2 : Nat → Heap → Prop} {a1 a2 : Value} {Q : Value → Shared → Prop} (S : Sep2 z TI TO i1 i2 fp1 fp2) (D1 : Draws prog w A i1 fp1 n1 P1 St1) (D2 : Draws prog w A i2 fp2 n2 P2 St2)
    (hz : ZipO s.heap z TI TO .none b) (hTI : TupO s.heap TI #[.ref i1, .ref i2]) (hTO : TupO s.heap TO #[a1, a2]) (st1 : St1 i s.heap) (st2 : St2 i s.heap) (hi1 : i < n1) (hi2 : i < n2)
    (hQ : ∀ x1 x2 h' tk, P1 i x1 → P2 i x2 → ZipO h' z TI TO (rawInt s.heap.objs.size) b → TupO h' TO #[x1, x2] → St1 (i + 1) h' → St2 (i + 1) h' → TupO h' s.heap.objs.size #[x1, x2] →
      (∀ c o, c ≠ z → c ≠ TO → c ≠ i1 → c ≠ i2 → s.heap.get? c = some o → h'.get? c = some o) → Q (.ref s.heap.objs.size) { s with heap := h', toks := tk }) :
    wpAny (model prog w) A (Builtin.«zip.__next__» ⟨[.ref z], []⟩) (fun fin s' => ∃ v, fin = .done (.ret v) ∧ Q v s') E s := by
  obtain ⟨hp, g, d, tk0, os⟩ := s
  refine wpAny_bind (m := field (.ref z) 2) (wpAny_field hz rfl (x := .bool b) rfl ?_)
  refine wpAny_bind (m := field (.ref z) 3) (wpAny_field hz rfl (x := .ref TI) rfl ?_)
  refine wpAny_bind (wpAny_seqItems hTI rfl ?_)
  show wpAny _ _ (Builtin.SmallTypes.ownedTupleIsFree (.ref z) >>= _) _ _ _
  rw [val_b]
  refine wpAny_bind ?_
  unfold Builtin.SmallTypes.ownedTupleIsFree
  refine wpAny_bind (wpAny_field hz rfl (x := .none) rfl (wpAny_pure ?_))
  simp only [if_true]
  refine wpAny_bind (wpAny_rule (wpAny_bind (wpAny_field hz rfl (x := .ref TO) rfl ?_)))
  refine wpAny_bind (wpAny_setField_rec hz (by simp) fun g0 hz0 hs0 => wpAny_bind ?_)
  replace hs0 : Heap.SameBut z hp g0 := hs0
  replace hz0 : ZipO g0 z TI TO .ellipsis b := hz0
  have hT0 : TupO g0 TO #[a1, a2] := hs0.extBut _ _ S.zTO.symm hTO
  have t1_0 : St1 i g0 := D1.frame _ _ _ st1 fun c hc o e => hs0.extBut c o (fun q => S.z1 (q ▸ hc)) e
  have t2_0 : St2 i g0 := D2.frame _ _ _ st2 fun c hc o e => hs0.extBut c o (fun q => S.z2 (q ▸ hc)) e
  have k0 : ∀ c o, c ≠ z → c ≠ TO → c ≠ i1 → c ≠ i2 → hp.get? c = some o → g0.get? c = some o := fun c o q0 _ _ _ e => hs0.extBut c o q0 e
  simp only [List.zipIdx_cons, List.zipIdx_nil, List.forIn_cons, List.forIn_nil]
  refine wpAny_bind (wpAny_bind (wpAny_onRaise (m := zdraw b (.ref i1)) (zdraw_item (s := ⟨g0, g, d, tk0, os⟩) D1 hi1 t1_0 fun x1 d1 tk1 p1 n1 hd1 => ?_)))
  replace hd1 : Heap.SameBut i1 g0 d1 := hd1
  have hU1 : TupO d1 TO #[a1, a2] := hd1.extBut _ _ (fun q => S.T1 (q ▸ S.m1)) hT0
  refine wpAny_bind (wpAny_seqItems (s := ⟨d1, g, d, tk1, os⟩) hU1 rfl ?_)
  refine wpAny_bind (upd_tup (s := ⟨d1, g, d, tk1, os⟩) hU1 (by simp) fun g1 hT1 hs1 => ?_)
  replace hs1 : Heap.SameBut TO d1 g1 := hs1
  replace hT1 : TupO g1 TO #[x1, a2] := hT1
  have hz1 : ZipO g1 z TI TO .ellipsis b := hs1.extBut _ _ S.zTO (hd1.extBut _ _ (fun q => S.z1 (q ▸ S.m1)) hz0)
  have t1_1 : St1 (i + 1) g1 := D1.frame _ _ _ n1 fun c hc o e => hs1.extBut c o (fun q => S.T1 (q ▸ hc)) e
  have t2_1 : St2 i g1 := D2.frame _ _ _ t2_0 fun c hc o e => hs1.extBut c o (fun q => S.T2 (q ▸ hc)) (hd1.extBut c o (fun q => S.s1_2 (q ▸ hc)) e)
  have k1 : ∀ c o, c ≠ z → c ≠ TO → c ≠ i1 → c ≠ i2 → hp.get? c = some o → g1.get? c = some o := fun c o qz qT q1 q2 e => hs1.extBut c o qT (hd1.extBut c o q1 (k0 c o qz qT q1 q2 e))
  have e1 : g1.objs.size = g0.objs.size := by rw [hs1.1, hd1.1]
  refine wpAny_bind (wpAny_letGo (wpAny_pure ?_))
  refine wpAny_bind (wpAny_bind (wpAny_onRaise (m := zdraw b (.ref i2)) (zdraw_item (s := ⟨g1, g, d, tk1, os⟩) D2 hi2 t2_1 fun x2 d2 tk2 p2 n2 hd2 => ?_)))
  replace hd2 : Heap.SameBut i2 g1 d2 := hd2
  have hU2 : TupO d2 TO #[x1, a2] := hd2.extBut _ _ (fun q => S.T2 (q ▸ S.m2)) hT1
  refine wpAny_bind (wpAny_seqItems (s := ⟨d2, g, d, tk2, os⟩) hU2 rfl ?_)
  refine wpAny_bind (upd_tup (s := ⟨d2, g, d, tk2, os⟩) hU2 (by simp) fun g2 hT2 hs2 => ?_)
  replace hs2 : Heap.SameBut TO d2 g2 := hs2
  replace hT2 : TupO g2 TO #[x1, x2] := hT2
  have hz2 : ZipO g2 z TI TO .ellipsis b := hs2.extBut _ _ S.zTO (hd2.extBut _ _ (fun q => S.z2 (q ▸ S.m2)) hz1)
  have t1_2 : St1 (i + 1) g2 := D1.frame _ _ _ t1_1 fun c hc o e => hs2.extBut c o (fun q => S.T1 (q ▸ hc)) (hd2.extBut c o (fun q => S.s2_1 (q ▸ hc)) e)
  have t2_2 : St2 (i + 1) g2 := D2.frame _ _ _ n2 fun c hc o e => hs2.extBut c o (fun q => S.T2 (q ▸ hc)) e
  have k2 : ∀ c o, c ≠ z → c ≠ TO → c ≠ i1 → c ≠ i2 → hp.get? c = some o → g2.get? c = some o := fun c o qz qT q1 q2 e => hs2.extBut c o qT (hd2.extBut c o q2 (k1 c o qz qT q1 q2 e))
  have e2 : g2.objs.size = g1.objs.size := by rw [hs2.1, hd2.1]
  refine wpAny_bind (wpAny_letGo (wpAny_pure ?_))
  refine wpAny_pure ?_
  refine wpAny_bind (wpAny_seqItems (s := ⟨g2, g, d, tk2, os⟩) hT2 rfl ?_)
  refine wpAny_bind (wpAny_newTuple ?_)
  have hsz : g2.objs.size = hp.objs.size := by rw [e2, e1, hs0.1]
  have hlt : z < g2.objs.size := Heap.lt_size hz2
  refine wpAny_bind ?_
  unfold Builtin.SmallTypes.ownedTupleHandOut
  have hy : ZipO (g2.push { cls := .type "tuple", data := .seq #[x1, x2] }) z TI TO .ellipsis b := Heap.get?_push_of_some _ hz2
  refine wpAny_bind (wpAny_setField_rec hy (by simp) fun u1 hu1 hv1 => wpAny_setField_rec hu1 (by simp) fun u2 hu2 hv2 => ?_)
  have up : ∀ c o, c ≠ z → g2.get? c = some o → u2.get? c = some o := fun c o q e => hv2.extBut c o q (hv1.extBut c o q (Heap.get?_push_of_some _ e))
  have hN : TupO u2 g2.objs.size #[x1, x2] := hv2.extBut _ _ (Nat.ne_of_gt hlt) (hv1.extBut _ _ (Nat.ne_of_gt hlt) (Heap.get?_push_size _ rfl))
  have hZ : ZipO u2 z TI TO (rawInt g2.objs.size) b := hu2
  rw [hsz] at hN hZ
  refine wpAny_pure ⟨_, rfl, ?_⟩
  show Q (.ref g2.objs.size) ⟨u2, g, d, tk2, os⟩
  rw [hsz]
  exact hQ x1 x2 u2 tk2 p1 p2 hZ (up _ _ S.zTO.symm hT2) (D1.frame _ _ _ t1_2 fun c hc o e => up c o (fun q => S.z1 (q ▸ hc)) e) (D2.frame _ _ _ t2_2 fun c hc o e => up c o (fun q => S.z2 (q ▸ hc)) e) hN fun c o qz qT q1 q2 e => up c o qz (k2 c o qz qT q1 q2 e)
theorem next_end2 {z TI TO i1 i2 : Addr} {fp1 fp2 : List Addr} {n : Nat} {P1 P2 : Nat → Value → Prop} {St1 St2 : Nat → Heap → Prop} {a1 a2 : Value} {Q : Fin → Shared → Prop} (hh : A.handled = none) (S : Sep2 z TI TO i1 i2 fp1 fp2) (D1 : Draws prog w A i1 fp1 n P1 St1) (D2 : Draws prog w A i2 fp2 n P2 St2)
    (hz : ZipO s.heap z TI TO .none b) (hTI : TupO s.heap TI #[.ref i1, .ref i2]) (hTO : TupO s.heap TO #[a1, a2]) (st1 : St1 n s.heap) (st2 : St2 n s.heap)
    (hE : ∀ h' e, (∀ c o, c ≠ z → c ≠ TO → c ≠ i1 → c ≠ i2 → s.heap.get? c = some o → h'.get? c = some o) → (∃ o, h'.get? e = some o ∧ o.cls = .type "StopIteration") → E (.ref e) { s with heap := h' }) :
    wpAny (model prog w) A (Builtin.«zip.__next__» ⟨[.ref z], []⟩) Q E s := by
  obtain ⟨hp, g, d, tk0, os⟩ := s
  refine wpAny_bind (m := field (.ref z) 2) (wpAny_field hz rfl (x := .bool b) rfl ?_)
  refine wpAny_bind (m := field (.ref z) 3) (wpAny_field hz rfl (x := .ref TI) rfl ?_)
  refine wpAny_bind (wpAny_seqItems hTI rfl ?_)
  show wpAny _ _ (Builtin.SmallTypes.ownedTupleIsFree (.ref z) >>= _) _ _ _
  rw [val_b]
  refine wpAny_bind ?_
  unfold Builtin.SmallTypes.ownedTupleIsFree
  refine wpAny_bind (wpAny_field hz rfl (x := .none) rfl (wpAny_pure ?_))
  simp only [if_true]
  refine wpAny_bind (wpAny_rule (wpAny_bind (wpAny_field hz rfl (x := .ref TO) rfl ?_)))
  refine wpAny_bind (wpAny_setField_rec hz (by simp) fun g0 hz0 hs0 => wpAny_bind ?_)
  replace hs0 : Heap.SameBut z hp g0 := hs0
  replace hz0 : ZipO g0 z TI TO .ellipsis b := hz0
  have t1_0 : St1 n g0 := D1.frame _ _ _ st1 fun c hc o e => hs0.extBut c o (fun q => S.z1 (q ▸ hc)) e
  have t2_0 : St2 n g0 := D2.frame _ _ _ st2 fun c hc o e => hs0.extBut c o (fun q => S.z2 (q ▸ hc)) e
  simp only [List.zipIdx_cons, List.zipIdx_nil, List.forIn_cons, List.forIn_nil]
  refine wpAny_bind (wpAny_bind (wpAny_onRaise ?_))
  cases b with
  | false =>
    refine wpAny_bind (m := Builtin.SmallTypes.nextOf (.ref i1)) (D1.done ⟨g0, g, d, tk0, os⟩ _ _ t1_0 fun y e hy he => ?_)
    replace hy : Heap.ExtBut i1 g0 y := hy
    obtain ⟨oe, hoe, hce⟩ := he
    replace hoe : y.get? e = some oe := hoe
    have hzy : ZipO y z TI TO .ellipsis false := hy _ _ (fun q => S.z1 (q ▸ S.m1)) hz0
    have hez : e ≠ z := fun x => by subst x; rw [hzy] at hoe; cases hoe; simp at hce
    refine wpAny_setField_rec (s := ⟨y, g, d, tk0, os⟩) hzy (by simp) fun y2 _ hv => ?_
    replace hv : Heap.SameBut z y y2 := hv
    exact hE y2 e (fun c o qz qT q1 q2 x => hv.extBut c o qz (hy c o q1 (hs0.extBut c o qz x))) ⟨oe, hv.extBut _ _ hez hoe, hce⟩
  | true =>
    refine zend_strict (s := ⟨g0, g, d, tk0, os⟩) D1 t1_0 fun y hy => ?_
    replace hy : Heap.ExtBut i1 g0 y := hy
    have hzy : ZipO y z TI TO .ellipsis true := hy _ _ (fun q => S.z1 (q ▸ S.m1)) hz0
    have t2_1 : St2 n y := D2.frame _ _ _ t2_0 fun c hc o e => hy c o (fun q => S.s1_2 (q ▸ hc)) e
    refine wpAny_bind (wpAny_setField_rec (s := ⟨y, g, d, tk0, os⟩) hzy (by simp) fun y1 _ hv1 => ?_)
    replace hv1 : Heap.SameBut z y y1 := hv1
    have r2_1 : St2 n y1 := D2.frame _ _ _ t2_1 fun c hc o e => hv1.extBut c o (fun q => S.z2 (q ▸ hc)) e
    have k1 : ∀ c o, c ≠ z → c ≠ TO → c ≠ i1 → c ≠ i2 → hp.get? c = some o → y1.get? c = some o := fun c o qz qT q1 q2 e => hv1.extBut c o qz (hy c o q1 (hs0.extBut c o qz e))
    refine wpAny_bind ?_
    refine wpAny_bind ?_
    simp only [List.drop_succ_cons, List.drop_zero, List.zipIdx_cons, List.zipIdx_nil, List.forIn_cons, List.forIn_nil]
    refine wpAny_bind (wpAny_bind (zend_strict (s := ⟨y1, g, d, tk0, os⟩) D2 r2_1 fun y2 hy2 => ?_))
    replace hy2 : Heap.ExtBut i2 y1 y2 := hy2
    have k2 : ∀ c o, c ≠ z → c ≠ TO → c ≠ i1 → c ≠ i2 → hp.get? c = some o → y2.get? c = some o := fun c o qz qT q1 q2 e => hy2 c o q2 (k1 c o qz qT q1 q2 e)
    refine wpAny_pure ?_
    refine wpAny_pure ?_
    exact wpAny_bind (wpAny_rule (stop_it (s := ⟨y2, g, d, tk0, os⟩) hh fun h2 e kk he => hE h2 e (fun c o qz qT q1 q2 x => kk c o (k2 c o qz qT q1 q2 x)) he))
theorem py_item2 {z TI TO i1 i2 : Addr} {fp1 fp2 : List Addr} {n1 n2 i : Nat} {P1 P2 : Nat → Value → Prop} {St1 St2 : Nat → Heap → Prop} {a1 a2 : Value} {Q : Option Value → Shared → Prop} (S : Sep2 z TI TO i1 i2 fp1 fp2) (D1 : Draws prog w A.in1 i1 fp1 n1 P1 St1) (D2 : Draws prog w A.in1 i2 fp2 n2 P2 St2)
    (hz : ZipO s.heap z TI TO .none b) (hTI : TupO s.heap TI #[.ref i1, .ref i2]) (hTO : TupO s.heap TO #[a1, a2]) (st1 : St1 i s.heap) (st2 : St2 i s.heap) (hi1 : i < n1) (hi2 : i < n2)
    (hQ : ∀ x1 x2 h' tk, P1 i x1 → P2 i x2 → ZipO h' z TI TO (rawInt s.heap.objs.size) b → TupO h' TO #[x1, x2] → St1 (i + 1) h' → St2 (i + 1) h' → TupO h' s.heap.objs.size #[x1, x2] →
      (∀ c o, c ≠ z → c ≠ TO → c ≠ i1 → c ≠ i2 → s.heap.get? c = some o → h'.get? c = some o) → Q (some (.ref s.heap.objs.size)) { s with heap := h', toks := tk }) : wpAny (model prog w) A (pyNext (.ref z)) Q E s := by
  have hT : s.TypeIs (.ref z) "zip" := ⟨_, hz, rfl⟩
  unfold pyNext
  refine wpAny_bind (wpAny_attempt (wpAny_callSpecial?_slot (name := Str.ofString "__next__") hT F.slot_zip_next (wpAny_call_entry F.slot_zip_next hT F.entry_zip_next ?_ (F.args_zip_next_1 _))))
  exact next_item2 S D1 D2 hz hTI hTO st1 st2 hi1 hi2 fun x1 x2 h2 tk p1 p2 q1 q2 u1 u2 q3 q4 => wpAny_pure (hQ x1 x2 h2 tk p1 p2 q1 q2 u1 u2 q3 q4)
theorem py_end2 {z TI TO i1 i2 : Addr} {fp1 fp2 : List Addr} {n : Nat} {P1 P2 : Nat → Value → Prop} {St1 St2 : Nat → Heap → Prop} {a1 a2 : Value} {Q : Option Value → Shared → Prop} (hh : A.handled = none) (S : Sep2 z TI TO i1 i2 fp1 fp2) (D1 : Draws prog w A.in1 i1 fp1 n P1 St1) (D2 : Draws prog w A.in1 i2 fp2 n P2 St2)
    (hz : ZipO s.heap z TI TO .none b) (hTI : TupO s.heap TI #[.ref i1, .ref i2]) (hTO : TupO s.heap TO #[a1, a2]) (st1 : St1 n s.heap) (st2 : St2 n s.heap)
    (hQ : ∀ h', (∀ c o, c ≠ z → c ≠ TO → c ≠ i1 → c ≠ i2 → s.heap.get? c = some o → h'.get? c = some o) → Q none { s with heap := h' }) : wpAny (model prog w) A (pyNext (.ref z)) Q E s := by
  have hT : s.TypeIs (.ref z) "zip" := ⟨_, hz, rfl⟩
  unfold pyNext
  refine wpAny_bind (wpAny_attempt (wpAny_callSpecial?_slot (name := Str.ofString "__next__") hT F.slot_zip_next (wpAny_call_entry F.slot_zip_next hT F.entry_zip_next ?_ (F.args_zip_next_1 _))))
  refine next_end2 (A := A.in1) hh S D1 D2 hz hTI hTO st1 st2 fun h2 e kk he => ?_
  obtain ⟨o, ho, hc⟩ := he
  exact wpAny_bind (wpAny_isInstance (T := "StopIteration") (b := true) ⟨o, ho, hc⟩ isSubtype_stop (wpAny_pure (hQ _ kk)))
theorem typeCall_strict2 (v1 v2 x : Value) : checkTypeCall "zip" ⟨[v1, v2], [(Str.ofString "strict", x)]⟩ = pure () := by kernel_rfl
theorem newCall_strict2 (v1 v2 x : Value) : checkBuiltinCall "zip.__new__" ⟨[.type "zip", v1, v2], [(Str.ofString "strict", x)]⟩ = pure () := by kernel_rfl
theorem initArgs_strict2 (obj v1 v2 x : Value) : argsOk "object.__init__" ⟨[obj, v1, v2], [(Str.ofString "strict", x)]⟩ := by unfold argsOk; kernel_rfl
abbrev sT2 (h : Heap) (o1 o2 : Obj) : Heap := (((h.push o1).push o2).push { cls := .type "tuple", data := .seq #[.ref h.objs.size, .ref (h.push o1).objs.size] })
abbrev sO2 (h : Heap) (o1 o2 : Obj) : Heap := (sT2 h o1 o2).push { cls := .type "tuple", data := .seq #[.none, .none] }
abbrev sZ2 (h : Heap) (o1 o2 : Obj) : Heap := (sO2 h o1 o2).push { cls := .type "zip", data := .fields #[.none, .bool false, .bool true, .ref ((h.push o1).push o2).objs.size, .ref (sT2 h o1 o2).objs.size] }
theorem meets_strict2 {v1 v2 : Value} {o1 o2 : Obj} {G1 G2 : Heap → Prop} (B1 : Begins v1 o1 G1) (B2 : Begins v2 o2 G2) :
    Meets (Builtin.«zip.__new__» ⟨[.type "zip", v1, v2], [(Str.ofString "strict", .bool true)]⟩) (fun _ R s => (G1 s.heap ∧ G2 s.heap) ∧ R (.ok (.ret (.ref (sO2 s.heap o1 o2).objs.size))) { s with heap := (sZ2 s.heap o1 o2) }) :=
  .of_wp fun prog w A R s h => by
    obtain ⟨hp, g, d, tk, os⟩ := s
    obtain ⟨⟨h1, h2⟩, h⟩ := h
    have hsub := sub_zip
    have e1 : (Str.ofString "strict" != ("strict" : Str)) = false := by decide +kernel
    have w1 : ∀ {A' : Around} {E : Value → Shared → Prop} {Q : Value → Shared → Prop}, Q (.ref hp.objs.size) ⟨(hp.push o1), g, d, tk, os⟩ → wpAny (model prog w) A' (pyIter v1) Q E ⟨hp, g, d, tk, os⟩ := fun q => B1.iter prog w _ _ ⟨hp, g, d, tk, os⟩ _ (B1.keeps _ _ h1 fun c u e => e) q
    have w2 : ∀ {A' : Around} {E : Value → Shared → Prop} {Q : Value → Shared → Prop}, Q (.ref (hp.push o1).objs.size) ⟨((hp.push o1).push o2), g, d, tk, os⟩ → wpAny (model prog w) A' (pyIter v2) Q E ⟨(hp.push o1), g, d, tk, os⟩ := fun q => B2.iter prog w _ _ ⟨(hp.push o1), g, d, tk, os⟩ _ (B2.keeps _ _ h2 fun c u e => (Heap.get?_push_of_some _ e)) q
    wp_walk using w1, w2
    exact ⟨_, rfl, h⟩
/-- zip(.., strict=True) of 2: its new cells -/
theorem begins_strict2 {v1 v2 : Value} {o1 o2 : Obj} {G1 G2 : Heap → Prop} {Q : Value → Shared → Prop} (B1 : Begins v1 o1 G1) (B2 : Begins v2 o2 G2) (h1 : G1 s.heap) (h2 : G2 s.heap)
    (h : ∀ h', ZipO h' (s.heap.objs.size + 4) (s.heap.objs.size + 2) (s.heap.objs.size + 3) .none true → TupO h' (s.heap.objs.size + 2) #[.ref s.heap.objs.size, .ref (s.heap.objs.size + 1)] → TupO h' (s.heap.objs.size + 3) #[.none, .none] → h'.get? s.heap.objs.size = some o1 → h'.get? (s.heap.objs.size + 1) = some o2 → (∀ c o, s.heap.get? c = some o → h'.get? c = some o) → Q (.ref (s.heap.objs.size + 4)) { s with heap := h' }) :
    wpAny (model prog w) A (call (.type "zip") [v1, v2] [(Str.ofString "strict", .bool true)]) Q E s := by
  refine callType_newKw F.called_zip (by decide) (typeCall_strict2 _ _ _) (newCall_strict2 _ _ _) (fun obj => initArgs_strict2 obj _ _ _) F.entry_zip_new (meets_strict2 B1 B2) ⟨⟨h1, h2⟩, ?_⟩
  have z1 : (s.heap.push o1).objs.size = s.heap.objs.size + 1 := by rw [Heap.size_push]
  have z2 : ((s.heap.push o1).push o2).objs.size = s.heap.objs.size + 2 := by rw [Heap.size_push, z1]
  have z3 : (sT2 s.heap o1 o2).objs.size = s.heap.objs.size + 3 := by rw [Heap.size_push, z2]
  have z4 : (sO2 s.heap o1 o2).objs.size = s.heap.objs.size + 4 := by rw [Heap.size_push, z3]
  have z5 : (sZ2 s.heap o1 o2).objs.size = s.heap.objs.size + 5 := by rw [Heap.size_push, z4]
  have q0 : (sZ2 s.heap o1 o2).get? s.heap.objs.size = some o1 := (Heap.get?_push_of_some _ (Heap.get?_push_of_some _ (Heap.get?_push_of_some _ (Heap.get?_push_of_some _ (Heap.get?_push_size _ B1.free)))))
  have q1 : (sZ2 s.heap o1 o2).get? (s.heap.push o1).objs.size = some o2 := (Heap.get?_push_of_some _ (Heap.get?_push_of_some _ (Heap.get?_push_of_some _ (Heap.get?_push_size _ B2.free))))
  rw [z1] at q1
  have q2 : (sZ2 s.heap o1 o2).get? ((s.heap.push o1).push o2).objs.size = some ({ cls := .type "tuple", data := .seq #[.ref s.heap.objs.size, .ref (s.heap.push o1).objs.size] } : Obj) := (Heap.get?_push_of_some _ (Heap.get?_push_of_some _ (Heap.get?_push_size _ rfl)))
  rw [z2] at q2
  have q3 : (sZ2 s.heap o1 o2).get? (sT2 s.heap o1 o2).objs.size = some ({ cls := .type "tuple", data := .seq #[.none, .none] } : Obj) := (Heap.get?_push_of_some _ (Heap.get?_push_size _ rfl))
  rw [z3] at q3
  have q4 : (sZ2 s.heap o1 o2).get? (sO2 s.heap o1 o2).objs.size = some ({ cls := .type "zip", data := .fields #[.none, .bool false, .bool true, .ref ((s.heap.push o1).push o2).objs.size, .ref (sT2 s.heap o1 o2).objs.size] } : Obj) := (Heap.get?_push_size _ rfl)
  rw [z4] at q4
  rw [z1] at q2
  rw [z3, z2] at q4
  show _ ∧ _
  rw [z4]
  exact ⟨⟨_, q4, rfl⟩, h _ q4 q2 q3 q0 q1 fun c o e => (Heap.get?_push_of_some _ (Heap.get?_push_of_some _ (Heap.get?_push_of_some _ (Heap.get?_push_of_some _ (Heap.get?_push_of_some _ e)))))⟩
end
/-- the cells of a zip over 3 iterators lie apart -/
structure Sep3 (z TI TO i1 i2 i3 : Addr) (fp1 fp2 fp3 : List Addr) : Prop where
  zTO : z ≠ TO
  zTI : z ≠ TI
  TOTI : TO ≠ TI
  m1 : i1 ∈ fp1
  z1 : z ∉ fp1
  T1 : TO ∉ fp1
  I1 : TI ≠ i1
  s2_1 : i2 ∉ fp1
  s3_1 : i3 ∉ fp1
  m2 : i2 ∈ fp2
  z2 : z ∉ fp2
  T2 : TO ∉ fp2
  I2 : TI ≠ i2
  s1_2 : i1 ∉ fp2
  s3_2 : i3 ∉ fp2
  m3 : i3 ∈ fp3
  z3 : z ∉ fp3
  T3 : TO ∉ fp3
  I3 : TI ≠ i3
  s1_3 : i1 ∉ fp3
  s2_3 : i2 ∉ fp3
section
variable {prog : Program} {w : World} {A : Around} {E : Value → Shared → Prop} {s : Shared} {b : Bool}
theorem next_item3 {z TI TO i1 i2 i3 : Addr} {fp1 fp2 fp3 : List Addr} {n1 n2 n3 i : Nat} {P1 P2 P3 : Nat → Value → Prop} {St1 St2 St3 : Nat → Heap → Prop} {a1 a2 a3 : Value} {Q : Value → Shared → Prop} (S : Sep3 z TI TO i1 i2 i3 fp1 fp2 fp3) (D1 : Draws prog w A i1 fp1 n1 P1 St1) (D2 : Draws prog w A i2 fp2 n2 P2 St2) (D3 : Draws prog w A i3 fp3 n3 P3 St3)
    (hz : ZipO s.heap z TI TO .none b) (hTI : TupO s.heap TI #[.ref i1, .ref i2, .ref i3]) (hTO : TupO s.heap TO #[a1, a2, a3]) (st1 : St1 i s.heap) (st2 : St2 i s.heap) (st3 : St3 i s.heap) (hi1 : i < n1) (hi2 : i < n2) (hi3 : i < n3)
    (hQ : ∀ x1 x2 x3 h' tk, P1 i x1 → P2 i x2 → P3 i x3 → ZipO h' z TI TO (rawInt s.heap.objs.size) b → TupO h' TO #[x1, x2, x3] → St1 (i + 1) h' → St2 (i + 1) h' → St3 (i + 1) h' → TupO h' s.heap.objs.size #[x1, x2, x3] →
      (∀ c o, c ≠ z → c ≠ TO → c ≠ i1 → c ≠ i2 → c ≠ i3 → s.heap.get? c = some o → h'.get? c = some o) → Q (.ref s.heap.objs.size) { s with heap := h', toks := tk }) :
    wpAny (model prog w) A (Builtin.«zip.__next__» ⟨[.ref z], []⟩) (fun fin s' => ∃ v, fin = .done (.ret v) ∧ Q v s') E s := by
  obtain ⟨hp, g, d, tk0, os⟩ := s
  refine wpAny_bind (m := field (.ref z) 2) (wpAny_field hz rfl (x := .bool b) rfl ?_)
  refine wpAny_bind (m := field (.ref z) 3) (wpAny_field hz rfl (x := .ref TI) rfl ?_)
  refine wpAny_bind (wpAny_seqItems hTI rfl ?_)
  show wpAny _ _ (Builtin.SmallTypes.ownedTupleIsFree (.ref z) >>= _) _ _ _
  rw [val_b]
  refine wpAny_bind ?_
  unfold Builtin.SmallTypes.ownedTupleIsFree
  refine wpAny_bind (wpAny_field hz rfl (x := .none) rfl (wpAny_pure ?_))
  simp only [if_true]
  refine wpAny_bind (wpAny_rule (wpAny_bind (wpAny_field hz rfl (x := .ref TO) rfl ?_)))
  refine wpAny_bind (wpAny_setField_rec hz (by simp) fun g0 hz0 hs0 => wpAny_bind ?_)
  replace hs0 : Heap.SameBut z hp g0 := hs0
  replace hz0 : ZipO g0 z TI TO .ellipsis b := hz0
  have hT0 : TupO g0 TO #[a1, a2, a3] := hs0.extBut _ _ S.zTO.symm hTO
  have t1_0 : St1 i g0 := D1.frame _ _ _ st1 fun c hc o e => hs0.extBut c o (fun q => S.z1 (q ▸ hc)) e
  have t2_0 : St2 i g0 := D2.frame _ _ _ st2 fun c hc o e => hs0.extBut c o (fun q => S.z2 (q ▸ hc)) e
  have t3_0 : St3 i g0 := D3.frame _ _ _ st3 fun c hc o e => hs0.extBut c o (fun q => S.z3 (q ▸ hc)) e
  have k0 : ∀ c o, c ≠ z → c ≠ TO → c ≠ i1 → c ≠ i2 → c ≠ i3 → hp.get? c = some o → g0.get? c = some o := fun c o q0 _ _ _ _ e => hs0.extBut c o q0 e
  simp only [List.zipIdx_cons, List.zipIdx_nil, List.forIn_cons, List.forIn_nil]
  refine wpAny_bind (wpAny_bind (wpAny_onRaise (m := zdraw b (.ref i1)) (zdraw_item (s := ⟨g0, g, d, tk0, os⟩) D1 hi1 t1_0 fun x1 d1 tk1 p1 n1 hd1 => ?_)))
  replace hd1 : Heap.SameBut i1 g0 d1 := hd1
  have hU1 : TupO d1 TO #[a1, a2, a3] := hd1.extBut _ _ (fun q => S.T1 (q ▸ S.m1)) hT0
  refine wpAny_bind (wpAny_seqItems (s := ⟨d1, g, d, tk1, os⟩) hU1 rfl ?_)
  refine wpAny_bind (upd_tup (s := ⟨d1, g, d, tk1, os⟩) hU1 (by simp) fun g1 hT1 hs1 => ?_)
  replace hs1 : Heap.SameBut TO d1 g1 := hs1
  replace hT1 : TupO g1 TO #[x1, a2, a3] := hT1
  have hz1 : ZipO g1 z TI TO .ellipsis b := hs1.extBut _ _ S.zTO (hd1.extBut _ _ (fun q => S.z1 (q ▸ S.m1)) hz0)
  have t1_1 : St1 (i + 1) g1 := D1.frame _ _ _ n1 fun c hc o e => hs1.extBut c o (fun q => S.T1 (q ▸ hc)) e
  have t2_1 : St2 i g1 := D2.frame _ _ _ t2_0 fun c hc o e => hs1.extBut c o (fun q => S.T2 (q ▸ hc)) (hd1.extBut c o (fun q => S.s1_2 (q ▸ hc)) e)
  have t3_1 : St3 i g1 := D3.frame _ _ _ t3_0 fun c hc o e => hs1.extBut c o (fun q => S.T3 (q ▸ hc)) (hd1.extBut c o (fun q => S.s1_3 (q ▸ hc)) e)
  have k1 : ∀ c o, c ≠ z → c ≠ TO → c ≠ i1 → c ≠ i2 → c ≠ i3 → hp.get? c = some o → g1.get? c = some o := fun c o qz qT q1 q2 q3 e => hs1.extBut c o qT (hd1.extBut c o q1 (k0 c o qz qT q1 q2 q3 e))
  have e1 : g1.objs.size = g0.objs.size := by rw [hs1.1, hd1.1]
  refine wpAny_bind (wpAny_letGo (wpAny_pure ?_))
  refine wpAny_bind (wpAny_bind (wpAny_onRaise (m := zdraw b (.ref i2)) (zdraw_item (s := ⟨g1, g, d, tk1, os⟩) D2 hi2 t2_1 fun x2 d2 tk2 p2 n2 hd2 => ?_)))
  replace hd2 : Heap.SameBut i2 g1 d2 := hd2
  have hU2 : TupO d2 TO #[x1, a2, a3] := hd2.extBut _ _ (fun q => S.T2 (q ▸ S.m2)) hT1
  refine wpAny_bind (wpAny_seqItems (s := ⟨d2, g, d, tk2, os⟩) hU2 rfl ?_)
  refine wpAny_bind (upd_tup (s := ⟨d2, g, d, tk2, os⟩) hU2 (by simp) fun g2 hT2 hs2 => ?_)
  replace hs2 : Heap.SameBut TO d2 g2 := hs2
  replace hT2 : TupO g2 TO #[x1, x2, a3] := hT2
  have hz2 : ZipO g2 z TI TO .ellipsis b := hs2.extBut _ _ S.zTO (hd2.extBut _ _ (fun q => S.z2 (q ▸ S.m2)) hz1)
  have t1_2 : St1 (i + 1) g2 := D1.frame _ _ _ t1_1 fun c hc o e => hs2.extBut c o (fun q => S.T1 (q ▸ hc)) (hd2.extBut c o (fun q => S.s2_1 (q ▸ hc)) e)
  have t2_2 : St2 (i + 1) g2 := D2.frame _ _ _ n2 fun c hc o e => hs2.extBut c o (fun q => S.T2 (q ▸ hc)) e
  have t3_2 : St3 i g2 := D3.frame _ _ _ t3_1 fun c hc o e => hs2.extBut c o (fun q => S.T3 (q ▸ hc)) (hd2.extBut c o (fun q => S.s2_3 (q ▸ hc)) e)
  have k2 : ∀ c o, c ≠ z → c ≠ TO → c ≠ i1 → c ≠ i2 → c ≠ i3 → hp.get? c = some o → g2.get? c = some o := fun c o qz qT q1 q2 q3 e => hs2.extBut c o qT (hd2.extBut c o q2 (k1 c o qz qT q1 q2 q3 e))
  have e2 : g2.objs.size = g1.objs.size := by rw [hs2.1, hd2.1]
  refine wpAny_bind (wpAny_letGo (wpAny_pure ?_))
  refine wpAny_bind (wpAny_bind (wpAny_onRaise (m := zdraw b (.ref i3)) (zdraw_item (s := ⟨g2, g, d, tk2, os⟩) D3 hi3 t3_2 fun x3 d3 tk3 p3 n3 hd3 => ?_)))
  replace hd3 : Heap.SameBut i3 g2 d3 := hd3
  have hU3 : TupO d3 TO #[x1, x2, a3] := hd3.extBut _ _ (fun q => S.T3 (q ▸ S.m3)) hT2
  refine wpAny_bind (wpAny_seqItems (s := ⟨d3, g, d, tk3, os⟩) hU3 rfl ?_)
  refine wpAny_bind (upd_tup (s := ⟨d3, g, d, tk3, os⟩) hU3 (by simp) fun g3 hT3 hs3 => ?_)
  replace hs3 : Heap.SameBut TO d3 g3 := hs3
  replace hT3 : TupO g3 TO #[x1, x2, x3] := hT3
  have hz3 : ZipO g3 z TI TO .ellipsis b := hs3.extBut _ _ S.zTO (hd3.extBut _ _ (fun q => S.z3 (q ▸ S.m3)) hz2)
  have t1_3 : St1 (i + 1) g3 := D1.frame _ _ _ t1_2 fun c hc o e => hs3.extBut c o (fun q => S.T1 (q ▸ hc)) (hd3.extBut c o (fun q => S.s3_1 (q ▸ hc)) e)
  have t2_3 : St2 (i + 1) g3 := D2.frame _ _ _ t2_2 fun c hc o e => hs3.extBut c o (fun q => S.T2 (q ▸ hc)) (hd3.extBut c o (fun q => S.s3_2 (q ▸ hc)) e)
  have t3_3 : St3 (i + 1) g3 := D3.frame _ _ _ n3 fun c hc o e => hs3.extBut c o (fun q => S.T3 (q ▸ hc)) e
  have k3 : ∀ c o, c ≠ z → c ≠ TO → c ≠ i1 → c ≠ i2 → c ≠ i3 → hp.get? c = some o → g3.get? c = some o := fun c o qz qT q1 q2 q3 e => hs3.extBut c o qT (hd3.extBut c o q3 (k2 c o qz qT q1 q2 q3 e))
  have e3 : g3.objs.size = g2.objs.size := by rw [hs3.1, hd3.1]
  refine wpAny_bind (wpAny_letGo (wpAny_pure ?_))
  refine wpAny_pure ?_
  refine wpAny_bind (wpAny_seqItems (s := ⟨g3, g, d, tk3, os⟩) hT3 rfl ?_)
  refine wpAny_bind (wpAny_newTuple ?_)
  have hsz : g3.objs.size = hp.objs.size := by rw [e3, e2, e1, hs0.1]
  have hlt : z < g3.objs.size := Heap.lt_size hz3
  refine wpAny_bind ?_
  unfold Builtin.SmallTypes.ownedTupleHandOut
  have hy : ZipO (g3.push { cls := .type "tuple", data := .seq #[x1, x2, x3] }) z TI TO .ellipsis b := Heap.get?_push_of_some _ hz3
  refine wpAny_bind (wpAny_setField_rec hy (by simp) fun u1 hu1 hv1 => wpAny_setField_rec hu1 (by simp) fun u2 hu2 hv2 => ?_)
  have up : ∀ c o, c ≠ z → g3.get? c = some o → u2.get? c = some o := fun c o q e => hv2.extBut c o q (hv1.extBut c o q (Heap.get?_push_of_some _ e))
  have hN : TupO u2 g3.objs.size #[x1, x2, x3] := hv2.extBut _ _ (Nat.ne_of_gt hlt) (hv1.extBut _ _ (Nat.ne_of_gt hlt) (Heap.get?_push_size _ rfl))
  have hZ : ZipO u2 z TI TO (rawInt g3.objs.size) b := hu2
  rw [hsz] at hN hZ
  refine wpAny_pure ⟨_, rfl, ?_⟩
  show Q (.ref g3.objs.size) ⟨u2, g, d, tk3, os⟩
  rw [hsz]
  exact hQ x1 x2 x3 u2 tk3 p1 p2 p3 hZ (up _ _ S.zTO.symm hT3) (D1.frame _ _ _ t1_3 fun c hc o e => up c o (fun q => S.z1 (q ▸ hc)) e) (D2.frame _ _ _ t2_3 fun c hc o e => up c o (fun q => S.z2 (q ▸ hc)) e) (D3.frame _ _ _ t3_3 fun c hc o e => up c o (fun q => S.z3 (q ▸ hc)) e) hN fun c o qz qT q1 q2 q3 e => up c o qz (k3 c o qz qT q1 q2 q3 e)
theorem next_end3 {z TI TO i1 i2 i3 : Addr} {fp1 fp2 fp3 : List Addr} {n : Nat} {P1 P2 P3 : Nat → Value → Prop} {St1 St2 St3 : Nat → Heap → Prop} {a1 a2 a3 : Value} {Q : Fin → Shared → Prop} (hh : A.handled = none) (S : Sep3 z TI TO i1 i2 i3 fp1 fp2 fp3) (D1 : Draws prog w A i1 fp1 n P1 St1) (D2 : Draws prog w A i2 fp2 n P2 St2) (D3 : Draws prog w A i3 fp3 n P3 St3)
    (hz : ZipO s.heap z TI TO .none b) (hTI : TupO s.heap TI #[.ref i1, .ref i2, .ref i3]) (hTO : TupO s.heap TO #[a1, a2, a3]) (st1 : St1 n s.heap) (st2 : St2 n s.heap) (st3 : St3 n s.heap)
    (hE : ∀ h' e, (∀ c o, c ≠ z → c ≠ TO → c ≠ i1 → c ≠ i2 → c ≠ i3 → s.heap.get? c = some o → h'.get? c = some o) → (∃ o, h'.get? e = some o ∧ o.cls = .type "StopIteration") → E (.ref e) { s with heap := h' }) :
    wpAny (model prog w) A (Builtin.«zip.__next__» ⟨[.ref z], []⟩) Q E s := by
  obtain ⟨hp, g, d, tk0, os⟩ := s
  refine wpAny_bind (m := field (.ref z) 2) (wpAny_field hz rfl (x := .bool b) rfl ?_)
  refine wpAny_bind (m := field (.ref z) 3) (wpAny_field hz rfl (x := .ref TI) rfl ?_)
  refine wpAny_bind (wpAny_seqItems hTI rfl ?_)
  show wpAny _ _ (Builtin.SmallTypes.ownedTupleIsFree (.ref z) >>= _) _ _ _
  rw [val_b]
  refine wpAny_bind ?_
  unfold Builtin.SmallTypes.ownedTupleIsFree
  refine wpAny_bind (wpAny_field hz rfl (x := .none) rfl (wpAny_pure ?_))
  simp only [if_true]
  refine wpAny_bind (wpAny_rule (wpAny_bind (wpAny_field hz rfl (x := .ref TO) rfl ?_)))
  refine wpAny_bind (wpAny_setField_rec hz (by simp) fun g0 hz0 hs0 => wpAny_bind ?_)
  replace hs0 : Heap.SameBut z hp g0 := hs0
  replace hz0 : ZipO g0 z TI TO .ellipsis b := hz0
  have t1_0 : St1 n g0 := D1.frame _ _ _ st1 fun c hc o e => hs0.extBut c o (fun q => S.z1 (q ▸ hc)) e
  have t2_0 : St2 n g0 := D2.frame _ _ _ st2 fun c hc o e => hs0.extBut c o (fun q => S.z2 (q ▸ hc)) e
  have t3_0 : St3 n g0 := D3.frame _ _ _ st3 fun c hc o e => hs0.extBut c o (fun q => S.z3 (q ▸ hc)) e
  simp only [List.zipIdx_cons, List.zipIdx_nil, List.forIn_cons, List.forIn_nil]
  refine wpAny_bind (wpAny_bind (wpAny_onRaise ?_))
  cases b with
  | false =>
    refine wpAny_bind (m := Builtin.SmallTypes.nextOf (.ref i1)) (D1.done ⟨g0, g, d, tk0, os⟩ _ _ t1_0 fun y e hy he => ?_)
    replace hy : Heap.ExtBut i1 g0 y := hy
    obtain ⟨oe, hoe, hce⟩ := he
    replace hoe : y.get? e = some oe := hoe
    have hzy : ZipO y z TI TO .ellipsis false := hy _ _ (fun q => S.z1 (q ▸ S.m1)) hz0
    have hez : e ≠ z := fun x => by subst x; rw [hzy] at hoe; cases hoe; simp at hce
    refine wpAny_setField_rec (s := ⟨y, g, d, tk0, os⟩) hzy (by simp) fun y2 _ hv => ?_
    replace hv : Heap.SameBut z y y2 := hv
    exact hE y2 e (fun c o qz qT q1 q2 q3 x => hv.extBut c o qz (hy c o q1 (hs0.extBut c o qz x))) ⟨oe, hv.extBut _ _ hez hoe, hce⟩
  | true =>
    refine zend_strict (s := ⟨g0, g, d, tk0, os⟩) D1 t1_0 fun y hy => ?_
    replace hy : Heap.ExtBut i1 g0 y := hy
    have hzy : ZipO y z TI TO .ellipsis true := hy _ _ (fun q => S.z1 (q ▸ S.m1)) hz0
    have t2_1 : St2 n y := D2.frame _ _ _ t2_0 fun c hc o e => hy c o (fun q => S.s1_2 (q ▸ hc)) e
    have t3_1 : St3 n y := D3.frame _ _ _ t3_0 fun c hc o e => hy c o (fun q => S.s1_3 (q ▸ hc)) e
    refine wpAny_bind (wpAny_setField_rec (s := ⟨y, g, d, tk0, os⟩) hzy (by simp) fun y1 _ hv1 => ?_)
    replace hv1 : Heap.SameBut z y y1 := hv1
    have r2_1 : St2 n y1 := D2.frame _ _ _ t2_1 fun c hc o e => hv1.extBut c o (fun q => S.z2 (q ▸ hc)) e
    have r3_1 : St3 n y1 := D3.frame _ _ _ t3_1 fun c hc o e => hv1.extBut c o (fun q => S.z3 (q ▸ hc)) e
    have k1 : ∀ c o, c ≠ z → c ≠ TO → c ≠ i1 → c ≠ i2 → c ≠ i3 → hp.get? c = some o → y1.get? c = some o := fun c o qz qT q1 q2 q3 e => hv1.extBut c o qz (hy c o q1 (hs0.extBut c o qz e))
    refine wpAny_bind ?_
    refine wpAny_bind ?_
    simp only [List.drop_succ_cons, List.drop_zero, List.zipIdx_cons, List.zipIdx_nil, List.forIn_cons, List.forIn_nil]
    refine wpAny_bind (wpAny_bind (zend_strict (s := ⟨y1, g, d, tk0, os⟩) D2 r2_1 fun y2 hy2 => ?_))
    replace hy2 : Heap.ExtBut i2 y1 y2 := hy2
    have k2 : ∀ c o, c ≠ z → c ≠ TO → c ≠ i1 → c ≠ i2 → c ≠ i3 → hp.get? c = some o → y2.get? c = some o := fun c o qz qT q1 q2 q3 e => hy2 c o q2 (k1 c o qz qT q1 q2 q3 e)
    have r3_2 : St3 n y2 := D3.frame _ _ _ r3_1 fun c hc o e => hy2 c o (fun q => S.s2_3 (q ▸ hc)) e
    refine wpAny_pure ?_
    refine wpAny_bind (wpAny_bind (zend_strict (s := ⟨y2, g, d, tk0, os⟩) D3 r3_2 fun y3 hy3 => ?_))
    replace hy3 : Heap.ExtBut i3 y2 y3 := hy3
    have k3 : ∀ c o, c ≠ z → c ≠ TO → c ≠ i1 → c ≠ i2 → c ≠ i3 → hp.get? c = some o → y3.get? c = some o := fun c o qz qT q1 q2 q3 e => hy3 c o q3 (k2 c o qz qT q1 q2 q3 e)
    refine wpAny_pure ?_
    refine wpAny_pure ?_
    exact wpAny_bind (wpAny_rule (stop_it (s := ⟨y3, g, d, tk0, os⟩) hh fun h2 e kk he => hE h2 e (fun c o qz qT q1 q2 q3 x => kk c o (k3 c o qz qT q1 q2 q3 x)) he))
theorem py_item3 {z TI TO i1 i2 i3 : Addr} {fp1 fp2 fp3 : List Addr} {n1 n2 n3 i : Nat} {P1 P2 P3 : Nat → Value → Prop} {St1 St2 St3 : Nat → Heap → Prop} {a1 a2 a3 : Value} {Q : Option Value → Shared → Prop} (S : Sep3 z TI TO i1 i2 i3 fp1 fp2 fp3) (D1 : Draws prog w A.in1 i1 fp1 n1 P1 St1) (D2 : Draws prog w A.in1 i2 fp2 n2 P2 St2) (D3 : Draws prog w A.in1 i3 fp3 n3 P3 St3)
    (hz : ZipO s.heap z TI TO .none b) (hTI : TupO s.heap TI #[.ref i1, .ref i2, .ref i3]) (hTO : TupO s.heap TO #[a1, a2, a3]) (st1 : St1 i s.heap) (st2 : St2 i s.heap) (st3 : St3 i s.heap) (hi1 : i < n1) (hi2 : i < n2) (hi3 : i < n3)
    (hQ : ∀ x1 x2 x3 h' tk, P1 i x1 → P2 i x2 → P3 i x3 → ZipO h' z TI TO (rawInt s.heap.objs.size) b → TupO h' TO #[x1, x2, x3] → St1 (i + 1) h' → St2 (i + 1) h' → St3 (i + 1) h' → TupO h' s.heap.objs.size #[x1, x2, x3] →
      (∀ c o, c ≠ z → c ≠ TO → c ≠ i1 → c ≠ i2 → c ≠ i3 → s.heap.get? c = some o → h'.get? c = some o) → Q (some (.ref s.heap.objs.size)) { s with heap := h', toks := tk }) : wpAny (model prog w) A (pyNext (.ref z)) Q E s := by
  have hT : s.TypeIs (.ref z) "zip" := ⟨_, hz, rfl⟩
  unfold pyNext
  refine wpAny_bind (wpAny_attempt (wpAny_callSpecial?_slot (name := Str.ofString "__next__") hT F.slot_zip_next (wpAny_call_entry F.slot_zip_next hT F.entry_zip_next ?_ (F.args_zip_next_1 _))))
  exact next_item3 S D1 D2 D3 hz hTI hTO st1 st2 st3 hi1 hi2 hi3 fun x1 x2 x3 h2 tk p1 p2 p3 q1 q2 u1 u2 u3 q3 q4 => wpAny_pure (hQ x1 x2 x3 h2 tk p1 p2 p3 q1 q2 u1 u2 u3 q3 q4)
theorem py_end3 {z TI TO i1 i2 i3 : Addr} {fp1 fp2 fp3 : List Addr} {n : Nat} {P1 P2 P3 : Nat → Value → Prop} {St1 St2 St3 : Nat → Heap → Prop} {a1 a2 a3 : Value} {Q : Option Value → Shared → Prop} (hh : A.handled = none) (S : Sep3 z TI TO i1 i2 i3 fp1 fp2 fp3) (D1 : Draws prog w A.in1 i1 fp1 n P1 St1) (D2 : Draws prog w A.in1 i2 fp2 n P2 St2) (D3 : Draws prog w A.in1 i3 fp3 n P3 St3)
    (hz : ZipO s.heap z TI TO .none b) (hTI : TupO s.heap TI #[.ref i1, .ref i2, .ref i3]) (hTO : TupO s.heap TO #[a1, a2, a3]) (st1 : St1 n s.heap) (st2 : St2 n s.heap) (st3 : St3 n s.heap)
    (hQ : ∀ h', (∀ c o, c ≠ z → c ≠ TO → c ≠ i1 → c ≠ i2 → c ≠ i3 → s.heap.get? c = some o → h'.get? c = some o) → Q none { s with heap := h' }) : wpAny (model prog w) A (pyNext (.ref z)) Q E s := by
  have hT : s.TypeIs (.ref z) "zip" := ⟨_, hz, rfl⟩
  unfold pyNext
  refine wpAny_bind (wpAny_attempt (wpAny_callSpecial?_slot (name := Str.ofString "__next__") hT F.slot_zip_next (wpAny_call_entry F.slot_zip_next hT F.entry_zip_next ?_ (F.args_zip_next_1 _))))
  refine next_end3 (A := A.in1) hh S D1 D2 D3 hz hTI hTO st1 st2 st3 fun h2 e kk he => ?_
  obtain ⟨o, ho, hc⟩ := he
  exact wpAny_bind (wpAny_isInstance (T := "StopIteration") (b := true) ⟨o, ho, hc⟩ isSubtype_stop (wpAny_pure (hQ _ kk)))
theorem typeCall_strict3 (v1 v2 v3 x : Value) : checkTypeCall "zip" ⟨[v1, v2, v3], [(Str.ofString "strict", x)]⟩ = pure () := by kernel_rfl
theorem newCall_strict3 (v1 v2 v3 x : Value) : checkBuiltinCall "zip.__new__" ⟨[.type "zip", v1, v2, v3], [(Str.ofString "strict", x)]⟩ = pure () := by kernel_rfl
theorem initArgs_strict3 (obj v1 v2 v3 x : Value) : argsOk "object.__init__" ⟨[obj, v1, v2, v3], [(Str.ofString "strict", x)]⟩ := by unfold argsOk; kernel_rfl
abbrev sT3 (h : Heap) (o1 o2 o3 : Obj) : Heap := ((((h.push o1).push o2).push o3).push { cls := .type "tuple", data := .seq #[.ref h.objs.size, .ref (h.push o1).objs.size, .ref ((h.push o1).push o2).objs.size] })
abbrev sO3 (h : Heap) (o1 o2 o3 : Obj) : Heap := (sT3 h o1 o2 o3).push { cls := .type "tuple", data := .seq #[.none, .none, .none] }
abbrev sZ3 (h : Heap) (o1 o2 o3 : Obj) : Heap := (sO3 h o1 o2 o3).push { cls := .type "zip", data := .fields #[.none, .bool false, .bool true, .ref (((h.push o1).push o2).push o3).objs.size, .ref (sT3 h o1 o2 o3).objs.size] }
theorem meets_strict3 {v1 v2 v3 : Value} {o1 o2 o3 : Obj} {G1 G2 G3 : Heap → Prop} (B1 : Begins v1 o1 G1) (B2 : Begins v2 o2 G2) (B3 : Begins v3 o3 G3) :
    Meets (Builtin.«zip.__new__» ⟨[.type "zip", v1, v2, v3], [(Str.ofString "strict", .bool true)]⟩) (fun _ R s => (G1 s.heap ∧ G2 s.heap ∧ G3 s.heap) ∧ R (.ok (.ret (.ref (sO3 s.heap o1 o2 o3).objs.size))) { s with heap := (sZ3 s.heap o1 o2 o3) }) :=
  .of_wp fun prog w A R s h => by
    obtain ⟨hp, g, d, tk, os⟩ := s
    obtain ⟨⟨h1, h2, h3⟩, h⟩ := h
    have hsub := sub_zip
    have e1 : (Str.ofString "strict" != ("strict" : Str)) = false := by decide +kernel
    have w1 : ∀ {A' : Around} {E : Value → Shared → Prop} {Q : Value → Shared → Prop}, Q (.ref hp.objs.size) ⟨(hp.push o1), g, d, tk, os⟩ → wpAny (model prog w) A' (pyIter v1) Q E ⟨hp, g, d, tk, os⟩ := fun q => B1.iter prog w _ _ ⟨hp, g, d, tk, os⟩ _ (B1.keeps _ _ h1 fun c u e => e) q
    have w2 : ∀ {A' : Around} {E : Value → Shared → Prop} {Q : Value → Shared → Prop}, Q (.ref (hp.push o1).objs.size) ⟨((hp.push o1).push o2), g, d, tk, os⟩ → wpAny (model prog w) A' (pyIter v2) Q E ⟨(hp.push o1), g, d, tk, os⟩ := fun q => B2.iter prog w _ _ ⟨(hp.push o1), g, d, tk, os⟩ _ (B2.keeps _ _ h2 fun c u e => (Heap.get?_push_of_some _ e)) q
    have w3 : ∀ {A' : Around} {E : Value → Shared → Prop} {Q : Value → Shared → Prop}, Q (.ref ((hp.push o1).push o2).objs.size) ⟨(((hp.push o1).push o2).push o3), g, d, tk, os⟩ → wpAny (model prog w) A' (pyIter v3) Q E ⟨((hp.push o1).push o2), g, d, tk, os⟩ := fun q => B3.iter prog w _ _ ⟨((hp.push o1).push o2), g, d, tk, os⟩ _ (B3.keeps _ _ h3 fun c u e => (Heap.get?_push_of_some _ (Heap.get?_push_of_some _ e))) q
    wp_walk using w1, w2, w3
    exact ⟨_, rfl, h⟩
/-- zip(.., strict=True) of 3: its new cells -/
theorem begins_strict3 {v1 v2 v3 : Value} {o1 o2 o3 : Obj} {G1 G2 G3 : Heap → Prop} {Q : Value → Shared → Prop} (B1 : Begins v1 o1 G1) (B2 : Begins v2 o2 G2) (B3 : Begins v3 o3 G3) (h1 : G1 s.heap) (h2 : G2 s.heap) (h3 : G3 s.heap)
    (h : ∀ h', ZipO h' (s.heap.objs.size + 5) (s.heap.objs.size + 3) (s.heap.objs.size + 4) .none true → TupO h' (s.heap.objs.size + 3) #[.ref s.heap.objs.size, .ref (s.heap.objs.size + 1), .ref (s.heap.objs.size + 2)] → TupO h' (s.heap.objs.size + 4) #[.none, .none, .none] → h'.get? s.heap.objs.size = some o1 → h'.get? (s.heap.objs.size + 1) = some o2 → h'.get? (s.heap.objs.size + 2) = some o3 → (∀ c o, s.heap.get? c = some o → h'.get? c = some o) → Q (.ref (s.heap.objs.size + 5)) { s with heap := h' }) :
    wpAny (model prog w) A (call (.type "zip") [v1, v2, v3] [(Str.ofString "strict", .bool true)]) Q E s := by
  refine callType_newKw F.called_zip (by decide) (typeCall_strict3 _ _ _ _) (newCall_strict3 _ _ _ _) (fun obj => initArgs_strict3 obj _ _ _ _) F.entry_zip_new (meets_strict3 B1 B2 B3) ⟨⟨h1, h2, h3⟩, ?_⟩
  have z1 : (s.heap.push o1).objs.size = s.heap.objs.size + 1 := by rw [Heap.size_push]
  have z2 : ((s.heap.push o1).push o2).objs.size = s.heap.objs.size + 2 := by rw [Heap.size_push, z1]
  have z3 : (((s.heap.push o1).push o2).push o3).objs.size = s.heap.objs.size + 3 := by rw [Heap.size_push, z2]
  have z4 : (sT3 s.heap o1 o2 o3).objs.size = s.heap.objs.size + 4 := by rw [Heap.size_push, z3]
  have z5 : (sO3 s.heap o1 o2 o3).objs.size = s.heap.objs.size + 5 := by rw [Heap.size_push, z4]
  have z6 : (sZ3 s.heap o1 o2 o3).objs.size = s.heap.objs.size + 6 := by rw [Heap.size_push, z5]
  have q0 : (sZ3 s.heap o1 o2 o3).get? s.heap.objs.size = some o1 := (Heap.get?_push_of_some _ (Heap.get?_push_of_some _ (Heap.get?_push_of_some _ (Heap.get?_push_of_some _ (Heap.get?_push_of_some _ (Heap.get?_push_size _ B1.free))))))
  have q1 : (sZ3 s.heap o1 o2 o3).get? (s.heap.push o1).objs.size = some o2 := (Heap.get?_push_of_some _ (Heap.get?_push_of_some _ (Heap.get?_push_of_some _ (Heap.get?_push_of_some _ (Heap.get?_push_size _ B2.free)))))
  rw [z1] at q1
  have q2 : (sZ3 s.heap o1 o2 o3).get? ((s.heap.push o1).push o2).objs.size = some o3 := (Heap.get?_push_of_some _ (Heap.get?_push_of_some _ (Heap.get?_push_of_some _ (Heap.get?_push_size _ B3.free))))
  rw [z2] at q2
  have q3 : (sZ3 s.heap o1 o2 o3).get? (((s.heap.push o1).push o2).push o3).objs.size = some ({ cls := .type "tuple", data := .seq #[.ref s.heap.objs.size, .ref (s.heap.push o1).objs.size, .ref ((s.heap.push o1).push o2).objs.size] } : Obj) := (Heap.get?_push_of_some _ (Heap.get?_push_of_some _ (Heap.get?_push_size _ rfl)))
  rw [z3] at q3
  have q4 : (sZ3 s.heap o1 o2 o3).get? (sT3 s.heap o1 o2 o3).objs.size = some ({ cls := .type "tuple", data := .seq #[.none, .none, .none] } : Obj) := (Heap.get?_push_of_some _ (Heap.get?_push_size _ rfl))
  rw [z4] at q4
  have q5 : (sZ3 s.heap o1 o2 o3).get? (sO3 s.heap o1 o2 o3).objs.size = some ({ cls := .type "zip", data := .fields #[.none, .bool false, .bool true, .ref (((s.heap.push o1).push o2).push o3).objs.size, .ref (sT3 s.heap o1 o2 o3).objs.size] } : Obj) := (Heap.get?_push_size _ rfl)
  rw [z5] at q5
  rw [z2, z1] at q3
  rw [z4, z3] at q5
  show _ ∧ _
  rw [z5]
  exact ⟨⟨_, q5, rfl⟩, h _ q5 q3 q4 q0 q1 q2 fun c o e => (Heap.get?_push_of_some _ (Heap.get?_push_of_some _ (Heap.get?_push_of_some _ (Heap.get?_push_of_some _ (Heap.get?_push_of_some _ (Heap.get?_push_of_some _ e))))))⟩
end
end CZ

namespace CZ
open PySem PySem.Spec PyProof.Rows L2
/-- a list (false) or a tuple (true) that is read -/
def SqK (K : PySem.W.Frag) (H : Hp) (p : Bool × Addr) (xs : List V) : Prop := if p.1 = true then SqT K H p.2 xs else SqL K H p.2 xs
def SqIt (h : Heap) (it : Addr) (p : Bool × Addr) (i : Nat) : Prop := if p.1 = true then h.IsTupleIter it p.2 i else h.IsListIter it p.2 i
def SeqIs (h : Heap) (p : Bool × Addr) (its : List Value) : Prop := if p.1 = true then h.IsTuple p.2 its.toArray else h.IsList p.2 its.toArray
/-- the iterator's object as it begins -/
def itO (p : Bool × Addr) : Obj := if p.1 = true then { cls := .type "tuple_iterator", data := .fields #[.ref p.2, .int 0 0] } else { cls := .type "list_iterator", data := .fields #[.ref p.2, .int 0 0] }
theorem SqIt.at {h h' : Heap} {it : Addr} {p : Bool × Addr} {i : Nat} (x : SqIt h it p i) (k : ∀ o, h.get? it = some o → h'.get? it = some o) : SqIt h' it p i := by
  obtain ⟨b, a⟩ := p
  cases b
  · exact Heap.IsListIter.at (show h.IsListIter it a i from x) k
  · exact Heap.IsTupleIter.at (show h.IsTupleIter it a i from x) k
theorem SqIt.obj {h : Heap} {it : Addr} {p : Bool × Addr} {i : Nat} (x : SqIt h it p i) : ∃ o, h.get? it = some o ∧ ∀ v, o.data ≠ .cell v := by
  obtain ⟨b, a⟩ := p
  cases b
  · obtain ⟨o, e, _, d⟩ := (show h.IsListIter it a i from x)
    exact ⟨o, e, fun v q => by rw [d] at q; cases q⟩
  · obtain ⟨o, e, _, d⟩ := (show h.IsTupleIter it a i from x)
    exact ⟨o, e, fun v q => by rw [d] at q; cases q⟩
theorem SqIt.begin {h : Heap} {it : Addr} {p : Bool × Addr} (e : h.get? it = some (itO p)) : SqIt h it p 0 := by
  obtain ⟨b, a⟩ := p
  cases b
  · exact ⟨_, e, rfl, rfl⟩
  · exact ⟨_, e, rfl, rfl⟩
theorem begins_of (p : Bool × Addr) (its : List Value) : Begins (.ref p.2) (itO p) (fun h => SeqIs h p its) := by
  obtain ⟨b, a⟩ := p
  cases b
  · exact begins_list a its.toArray
  · exact begins_tuple a its.toArray
theorem draws_of {prog : Program} {w : World} {A : Around} (hh : A.handled = none) (it : Addr) (p : Bool × Addr) (ne : p.2 ≠ it) (its : List Value) :
    Draws prog w A it [it, p.2] its.toArray.size (fun i v => its.toArray[i]? = some v) (fun i h => SqIt h it p i ∧ SeqIs h p its) := by
  obtain ⟨b, a⟩ := p
  cases b
  · exact Draws.list hh it a ne its.toArray
  · exact Draws.tuple hh it a ne its.toArray
section
variable {X : Cx} {pins : List (Addr × Obj)} {σ : L2.St} {H : Hp} {s : Shared} {p : Bool × Addr} {xs ys : List V}
theorem sq_seq (I : Inv X pins σ H s) (h : SqK X.K H p xs) : ∃ its : List Value, Vals xs its ∧ SeqIs s.heap p its ∧ p.2 < s.heap.objs.size := by
  obtain ⟨b, a⟩ := p
  cases b
  · obtain ⟨its, rv, q, _⟩ := I.list (show SqL X.K H a xs from h)
    exact ⟨its, rv, q.isList, q.lt⟩
  · obtain ⟨its, rv, q, _⟩ := I.tuple (show SqT X.K H a xs from h)
    obtain ⟨o, ho, _⟩ := id q
    exact ⟨its, rv, q, Heap.lt_size ho⟩
theorem sq_inj (I : Inv X pins σ H s) (h : SqK X.K H p xs) (h2 : SqK X.K H p ys) : xs = ys := by
  obtain ⟨b, a⟩ := p
  cases b
  · exact I.list_inj (show SqL X.K H a xs from h) h2
  · exact I.tuple_inj (show SqT X.K H a xs from h) h2
end
/-- what a zip of lists and tuples of one length gives -/
def ItZ (K : PySem.W.Frag) (l : List (Bool × Addr)) : It :=
  ⟨fun i H => ∃ vs : List V, Paired (fun p v => ∃ xs, SqK K H p xs ∧ xs[i]? = some v) l vs,
    fun i H v H2 => ∃ (T : Addr) (vs : List V), v = .ref T ∧ H T = none ∧ H2 = upd H T (.tup vs) ∧ Paired (fun p v => ∀ xs, SqK K H p xs → xs[i]? = some v) l vs,
    fun i H => ∀ p ∈ l, ∃ xs, SqK K H p xs ∧ xs.length = i⟩
def YRow (xss : List (List V)) : Nat → Hp → V → Hp → Prop := fun i H v H2 => ∃ (T : Addr) (vs : List V), v = .ref T ∧ H T = none ∧ H2 = upd H T (.tup vs) ∧ Paired (fun (xs : List V) v => xs[i]? = some v) xss vs
theorem pair_go {K : PySem.W.Frag} {H : Hp} {i : Nat} : ∀ {l : List (Bool × Addr)} {xss : List (List V)}, Paired (fun p xs => SqK K H p xs) l xss → (∀ xs ∈ xss, i < xs.length) → ∃ vs, Paired (fun p v => ∃ xs, SqK K H p xs ∧ xs[i]? = some v) l vs
  | _, _, .nil, _ => ⟨[], .nil⟩
  | _, _, .cons (b := xs) r t, h => by
    obtain ⟨vs, q⟩ := pair_go t fun ys hy => h ys (List.mem_cons_of_mem _ hy)
    have hi := h xs List.mem_cons_self
    exact ⟨xs[i] :: vs, .cons ⟨xs, r, List.getElem?_eq_getElem hi⟩ q⟩
theorem pair_row {K : PySem.W.Frag} {H : Hp} {i : Nat} : ∀ {l : List (Bool × Addr)} {xss : List (List V)} {vs : List V}, Paired (fun p xs => SqK K H p xs) l xss → Paired (fun p v => ∀ xs, SqK K H p xs → xs[i]? = some v) l vs → Paired (fun (xs : List V) v => xs[i]? = some v) xss vs
  | _, _, _, .nil, .nil => .nil
  | _, _, _, .cons r t, .cons q u => .cons (q _ r) (pair_row t u)
theorem pair_stop {K : PySem.W.Frag} {H : Hp} {n : Nat} : ∀ {l : List (Bool × Addr)} {xss : List (List V)}, Paired (fun p xs => SqK K H p xs) l xss → (∀ xs ∈ xss, xs.length = n) → ∀ p ∈ l, ∃ xs, SqK K H p xs ∧ xs.length = n
  | _, _, .nil, _, _, hp => nomatch hp
  | _, _, .cons r t, h, p, hp => by
    rcases List.mem_cons.mp hp with e | hp
    · rw [e]
      exact ⟨_, r, h _ List.mem_cons_self⟩
    · exact pair_stop t (fun ys hy => h ys (List.mem_cons_of_mem _ hy)) p hp
theorem walk_rows {K : PySem.W.Frag} {l : List (Bool × Addr)} {xss : List (List V)} {n : Nat} (hn : ∀ xs ∈ xss, xs.length = n) : Walk (ItZ K l) n (fun H => Paired (fun p xs => SqK K H p xs) l xss) (YRow xss) :=
  ⟨fun i H hi q => pair_go q fun xs hx => by rw [hn xs hx]; exact hi, fun H q => pair_stop q hn, fun i H x H2 _ q y => by
    obtain ⟨T, vs, h1, h2, h3, h4⟩ := y
    exact ⟨T, vs, h1, h2, h3, pair_row q h4⟩⟩
/-- the reading of zip(..): which are tuples is told by the flags -/
def iZ (K : PySem.W.Frag) (fl : List Bool) (ta : TA) : TI := fun σ H R => ta σ H fun vs H1 => ∃ l : List Addr, vs = l.map V.ref ∧ l.length = fl.length ∧ (∀ p ∈ fl.zip l, ∃ xs, SqK K H1 p xs) ∧ R (ItZ K (fl.zip l)) H1
theorem nin_new {M a : Nat} (j k : Nat) (h : a < M) (hjk : j ≠ k) : M + j ∉ [M + k, a] := by
  simp only [List.mem_cons, List.mem_nil_iff, or_false, not_or]
  omega
theorem looks_ty {M : Model} {h : Heap} (T : String) (_ : True) : ∃ k, (k = Keeper.frame ∨ k = Keeper.machine ∨ k = Keeper.boundFrame) ∧ PySem.W.Looks M h (keeperOf (.type T)) k := ⟨_, .inr (.inl rfl), PySem.W.Looks.of_pure rfl⟩
end CZ

namespace CZ
open PySem PySem.Spec PyProof.Rows L2
theorem turn_z2 {P : Program} {w : World} {K : PySem.W.Frag} {elts : List Expr} {kk : Nat} {tpos : Pos} {z TI TO i1 i2 : Addr} {p1 p2 : Bool × Addr} {b : Bool} (S : Sep2 z TI TO i1 i2 [i1, p1.2] [i2, p2.2]) (ne1 : p1.2 ≠ i1) (ne2 : p2.2 ≠ i2) :
    Turn P w K (.Tuple elts kk tpos) (ItZ K [p1, p2]) [z, TI, TO, i1, i2] z (fun i h => ZipO h z TI TO .none b ∧ TupO h TI #[.ref i1, .ref i2] ∧ (∃ a1 a2, TupO h TO #[a1, a2]) ∧ SqIt h i1 p1 i ∧ SqIt h i2 p2 i) where
  mem := by simp
  obj := fun i h st c hc => by
    obtain ⟨hz, hTI, ⟨a1, a2, hTO⟩, h1, h2⟩ := st
    have e : c = z ∨ c = TI ∨ c = TO ∨ c = i1 ∨ c = i2 := by simpa using hc
    rcases e with q | q | q | q | q
    · rw [q]; exact ⟨_, hz, fun v q => nomatch q⟩
    · rw [q]; exact ⟨_, hTI, fun v q => nomatch q⟩
    · rw [q]; exact ⟨_, hTO, fun v q => nomatch q⟩
    · rw [q]; exact h1.obj
    · rw [q]; exact h2.obj
  keep := fun i h h2 st k => by
    obtain ⟨hz, hTI, ⟨a1, a2, hTO⟩, h1, h2⟩ := st
    exact ⟨k z (by simp) _ hz, k TI (by simp) _ hTI, ⟨a1, a2, k TO (by simp) _ hTO⟩, h1.at fun o q => k i1 (by simp) o q, h2.at fun o q => k i2 (by simp) o q⟩
  item := by
    intro X hP hw hK hc i pins s σ H E I hf st hg
    subst hP hw hK
    obtain ⟨hz, hTI, ⟨a1, a2, hTO⟩, h1, h2⟩ := st
    obtain ⟨vs, hv⟩ := hg
    cases hv with
    | cons r1 hv1 =>
      rename_i v1 ws1
      obtain ⟨xs1, hq1, hx1⟩ := r1
      obtain ⟨its1, rv1, q1, _⟩ := sq_seq I hq1
      obtain ⟨u1, hu1, ru1⟩ := rv1.get hx1
      have g1 : its1.toArray[i]? = some u1 := by simpa using hu1
      have l1 : i < its1.toArray.size := by have := (List.getElem?_eq_some_iff.mp hu1).1; simpa using this
      cases hv1 with
      | cons r2 hv2 =>
        rename_i v2 ws2
        obtain ⟨xs2, hq2, hx2⟩ := r2
        obtain ⟨its2, rv2, q2, _⟩ := sq_seq I hq2
        obtain ⟨u2, hu2, ru2⟩ := rv2.get hx2
        have g2 : its2.toArray[i]? = some u2 := by simpa using hu2
        have l2 : i < its2.toArray.size := by have := (List.getElem?_eq_some_iff.mp hu2).1; simpa using this
        cases hv2
        have hzl : z < s.heap.objs.size := Heap.lt_size hz
        refine py_item2 S (draws_of (A := X.A.in1) (I.ok.hd hc) i1 p1 ne1 its1) (draws_of (A := X.A.in1) (I.ok.hd hc) i2 p2 ne2 its2) hz hTI hTO ⟨h1, q1⟩ ⟨h2, q2⟩ l1 l2 fun x1 x2 hA tk y1 y2 z2 TO2 n1 n2 hT hk => ?_
        obtain rfl : u1 = x1 := Option.some.inj (g1.symm.trans y1)
        obtain rfl : u2 = x2 := Option.some.inj (g2.symm.trans y2)
        refine ⟨_, rfl, go_zip (s := { s with heap := hA, toks := tk }) z2 fun hB z3 sb => ?_⟩
        replace sb : Heap.SameBut z hA hB := sb
        have hT2 : hB.get? s.heap.objs.size = some { cls := .type "tuple", data := .seq #[u1, u2] } := (sb.2 _ (Nat.ne_of_gt hzl)).trans hT
        have new : ObjOk X.prog X.w (upd H s.heap.objs.size (.tup [v1, v2])) hB s.heap.objs.size (.tup [v1, v2]) := ⟨by show 2 ≤ sizeLine; decide, [u1, u2], (.cons ru1 (.cons ru2 .nil)), ⟨_, hT2, rfl, _, rfl⟩⟩
        have I1 : Inv X pins σ (upd H s.heap.objs.size (.tup [v1, v2])) { s with heap := hB, toks := tk } := I.turnedNew (t' := tk) (ch := [z, TI, TO, i1, i2]) (fun c o hb q => (sb.2 c (fun q => hb (by simp [q]))).trans (hk c o (fun q => hb (by simp [q])) (fun q => hb (by simp [q])) (fun q => hb (by simp [q])) (fun q => hb (by simp [q])) q)) hf (Nat.le_refl _) new
        refine ⟨.ref s.heap.objs.size, _, I1, rfl, ⟨_, _, rfl, I.hok.fresh (Nat.le_refl _), rfl, (.cons (fun l hl => by rw [sq_inj I hl hq1]; exact hx1) (.cons (fun l hl => by rw [sq_inj I hl hq2]; exact hx2) .nil))⟩, ⟨z3, (sb.2 _ S.zTI.symm).trans (hk _ _ S.zTI.symm S.TOTI.symm S.I1 S.I2 hTI), ⟨u1, u2, (sb.2 _ S.zTO.symm).trans TO2⟩, (n1.1.at fun o q => (sb.2 _ (fun q => S.z1 (by rw [← q]; exact S.m1))).trans q), (n2.1.at fun o q => (sb.2 _ (fun q => S.z2 (by rw [← q]; exact S.m2))).trans q)⟩, fun c hcm => ?_⟩
        have hlt : c < s.heap.objs.size := by
          have e : c = z ∨ c = TI ∨ c = TO ∨ c = i1 ∨ c = i2 := by simpa using hcm
          rcases e with q | q | q | q | q
          · rw [q]; exact hzl
          · rw [q]; exact Heap.lt_size hTI
          · rw [q]; exact Heap.lt_size hTO
          · rw [q]; obtain ⟨_, e1, _⟩ := h1.obj; exact Heap.lt_size e1
          · rw [q]; obtain ⟨_, e1, _⟩ := h2.obj; exact Heap.lt_size e1
        rw [upd_ne (Nat.ne_of_lt hlt)]
        exact (hf c hcm).1
  done := by
    intro X hP hw hK hc i pins s σ H E I hf st hg
    subst hP hw hK
    obtain ⟨hz, hTI, ⟨a1, a2, hTO⟩, h1, h2⟩ := st
    obtain ⟨xs1, hq1, hx1⟩ := hg p1 (by simp)
    obtain ⟨its1, rv1, q1, _⟩ := sq_seq I hq1
    have l1 : its1.toArray.size = i := by have := rv1.length; simp; omega
    have D1 := draws_of (prog := X.prog) (w := X.w) (A := X.A.in1) (I.ok.hd hc) i1 p1 ne1 its1
    rw [l1] at D1
    obtain ⟨xs2, hq2, hx2⟩ := hg p2 (by simp)
    obtain ⟨its2, rv2, q2, _⟩ := sq_seq I hq2
    have l2 : its2.toArray.size = i := by have := rv2.length; simp; omega
    have D2 := draws_of (prog := X.prog) (w := X.w) (A := X.A.in1) (I.ok.hd hc) i2 p2 ne2 its2
    rw [l2] at D2
    exact py_end2 (I.ok.hd hc) S D1 D2 hz hTI hTO ⟨h1, q1⟩ ⟨h2, q2⟩ fun h2 hk => ⟨rfl, I.turnedL (t' := s.toks) (ch := [z, TI, TO, i1, i2]) (fun c o hb q => hk c o (fun q => hb (by simp [q])) (fun q => hb (by simp [q])) (fun q => hb (by simp [q])) (fun q => hb (by simp [q])) q) hf⟩
  self := fun A i s Q E st h => iter_zip st.1 h
theorem sep_new2 {M : Nat} {p1 p2 : Bool × Addr} (h1 : p1.2 < M) (h2 : p2.2 < M) : Sep2 (M + 4) (M + 2) (M + 3) M (M + 1) [M, p1.2] [M + 1, p2.2] where
  zTO := by show (M + 4 : Nat) ≠ M + 3; omega
  zTI := by show (M + 4 : Nat) ≠ M + 2; omega
  TOTI := by show (M + 3 : Nat) ≠ M + 2; omega
  m1 := by simp
  z1 := nin_new (a := p1.2) 4 0 h1 (by decide)
  T1 := nin_new (a := p1.2) 3 0 h1 (by decide)
  I1 := by show (M + 2 : Nat) ≠ M; omega
  s2_1 := nin_new (a := p1.2) 1 0 h1 (by decide)
  m2 := by simp
  z2 := nin_new (a := p2.2) 4 1 h2 (by decide)
  T2 := nin_new (a := p2.2) 3 1 h2 (by decide)
  I2 := by show (M + 2 : Nat) ≠ M + 1; omega
  s1_2 := nin_new (a := p2.2) 0 1 h2 (by decide)
theorem pi_z2s {X : Cx} {e1 e2 : Expr} {ta : TA} {p pos tpos : Pos} {elts : List Expr} {kk : Nat} {jj : Nat} {kp kp2 : Pos} {fl : List Bool} (hfl : fl.length = 2) (hg : Gl X "zip") (hm : X.mg "zip" = none) (ha : PA X [e1, e2] ta)
    (hs : starEach [e1, e2] X.env = (false, eval e1 X.env) :: starEach [e2] X.env := by rfl) (hpl : (backTo pos (starEach [e2] X.env)).any (·.1) = false := by rfl) :
    PI X (.Tuple elts kk tpos) (.Call (.Name "zip" p) [e1, e2] [⟨some "strict", .Constant (.bool true) jj kp, kp2⟩] pos) (iZ X.K fl ta) := by
  refine ⟨fun pins s σ H R I h => ?_⟩
  refine wpAny_Call_Name_kw (ld_blt I hg hm PyProof.Rows.boot_zip ?_)
  refine PySem.W.callWith_of (P := fun _ => True) ?_ (fun h _ => looks_ty "zip" True.intro) ?_
  · show ((backTo pos (starEach _ X.env)).any (·.1) || false) = false
    rw [hs, Bool.or_false]
    exact hpl
  have he : backTo pos (starEach [e1, e2] X.env) = (false, eval e1 X.env) :: backTo pos (starEach [e2] X.env) := by rw [hs]; rfl
  rw [he]
  refine PyProof.Rows.evalArgs_kwB rfl ?_
  rw [← he]
  refine thn (ha.run pos pins s σ H _ I h) fun us s0 ⟨vs, H1, I0, r1, q1⟩ => ?_
  refine PyProof.Rows.kws_cons (Constant_bool (PyProof.Rows.kws_nil ⟨True.intro, ?_⟩))
  have I1 := I0
  obtain ⟨l, ev, el, hl, q1⟩ := q1
  subst ev
  obtain ⟨b1, b2, rfl⟩ : ∃ b1 b2 : Bool, fl = [b1, b2] := match fl, hfl with | [_, _], _ => ⟨_, _, rfl⟩
  obtain ⟨c1, c2, rfl⟩ : ∃ c1 c2 : Addr, l = [c1, c2] := match l, el with | [_, _], _ => ⟨_, _, rfl⟩
  cases r1 with
  | cons r_1 rr1 =>
    cases r_1
    cases rr1 with
    | cons r_2 rr2 =>
      cases r_2
      cases rr2
      obtain ⟨xs1, hq1⟩ := hl (b1, c1) (by simp)
      obtain ⟨its1, rv1, g1, lt1⟩ := sq_seq I1 hq1
      obtain ⟨xs2, hq2⟩ := hl (b2, c2) (by simp)
      obtain ⟨its2, rv2, g2, lt2⟩ := sq_seq I1 hq2
      have frs : ∀ c, c ∈ [s0.heap.objs.size + 4, s0.heap.objs.size + 2, s0.heap.objs.size + 3, s0.heap.objs.size, s0.heap.objs.size + 1] → FpOk X pins H1 c := fun c hcm => by
        have e : c = s0.heap.objs.size + 4 ∨ c = s0.heap.objs.size + 2 ∨ c = s0.heap.objs.size + 3 ∨ c = s0.heap.objs.size ∨ c = s0.heap.objs.size + 1 := by simpa using hcm
        have hle : s0.heap.objs.size ≤ c := by
          rcases e with q | q | q | q | q
          · rw [q]; exact Nat.le_add_right _ _
          · rw [q]; exact Nat.le_add_right _ _
          · rw [q]; exact Nat.le_add_right _ _
          · rw [q]; exact Nat.le_refl _
          · rw [q]; exact Nat.le_add_right _ _
        exact I1.fpOk hle (I1.hok.fresh hle)
      refine begins_strict2 (begins_of (b1, c1) its1) (begins_of (b2, c2) its2) g1 g2 fun hA hz hTI hTO y1 y2 kk => iter_zip hz ?_
      have I2 : Inv X pins σ H1 { s0 with heap := hA } := I1.kept (t' := s0.toks) kk
      exact ⟨_, [s0.heap.objs.size + 4, s0.heap.objs.size + 2, s0.heap.objs.size + 3, s0.heap.objs.size, s0.heap.objs.size + 1], _, _, H1, rfl, I2, turn_z2 (sep_new2 lt1 lt2) (Nat.ne_of_lt lt1) (Nat.ne_of_lt (Nat.lt_of_lt_of_le lt2 (Nat.le_add_right _ 1))), ⟨hz, hTI, ⟨_, _, hTO⟩, SqIt.begin y1, SqIt.begin y2⟩, frs, q1⟩
theorem pi_z2 {X : Cx} {e1 e2 : Expr} {ta : TA} {p pos tpos : Pos} {elts : List Expr} {kk : Nat} {fl : List Bool} (hfl : fl.length = 2) (hg : Gl X "zip") (hm : X.mg "zip" = none) (ha : PA X [e1, e2] ta)
    (hs : starEach [e1, e2] X.env = (false, eval e1 X.env) :: starEach [e2] X.env := by rfl) (hpl : (backTo pos (starEach [e2] X.env)).any (·.1) = false := by rfl) :
    PI X (.Tuple elts kk tpos) (.Call (.Name "zip" p) [e1, e2] [] pos) (iZ X.K fl ta) := by
  refine ⟨fun pins s σ H R I h => ?_⟩
  refine Call_ (ld_blt I hg hm PyProof.Rows.boot_zip (PyProof.Rows.callWith_type1 (thn (ha.run pos pins s σ H _ I h) fun us s0 ⟨vs, H1, I1, r1, q1⟩ => ?_) hs hpl))
  obtain ⟨l, ev, el, hl, q1⟩ := q1
  subst ev
  obtain ⟨b1, b2, rfl⟩ : ∃ b1 b2 : Bool, fl = [b1, b2] := match fl, hfl with | [_, _], _ => ⟨_, _, rfl⟩
  obtain ⟨c1, c2, rfl⟩ : ∃ c1 c2 : Addr, l = [c1, c2] := match l, el with | [_, _], _ => ⟨_, _, rfl⟩
  cases r1 with
  | cons r_1 rr1 =>
    cases r_1
    cases rr1 with
    | cons r_2 rr2 =>
      cases r_2
      cases rr2
      obtain ⟨xs1, hq1⟩ := hl (b1, c1) (by simp)
      obtain ⟨its1, rv1, g1, lt1⟩ := sq_seq I1 hq1
      obtain ⟨xs2, hq2⟩ := hl (b2, c2) (by simp)
      obtain ⟨its2, rv2, g2, lt2⟩ := sq_seq I1 hq2
      have frs : ∀ c, c ∈ [s0.heap.objs.size + 4, s0.heap.objs.size + 2, s0.heap.objs.size + 3, s0.heap.objs.size, s0.heap.objs.size + 1] → FpOk X pins H1 c := fun c hcm => by
        have e : c = s0.heap.objs.size + 4 ∨ c = s0.heap.objs.size + 2 ∨ c = s0.heap.objs.size + 3 ∨ c = s0.heap.objs.size ∨ c = s0.heap.objs.size + 1 := by simpa using hcm
        have hle : s0.heap.objs.size ≤ c := by
          rcases e with q | q | q | q | q
          · rw [q]; exact Nat.le_add_right _ _
          · rw [q]; exact Nat.le_add_right _ _
          · rw [q]; exact Nat.le_add_right _ _
          · rw [q]; exact Nat.le_refl _
          · rw [q]; exact Nat.le_add_right _ _
        exact I1.fpOk hle (I1.hok.fresh hle)
      refine zip_begins2 (begins_of (b1, c1) its1) (begins_of (b2, c2) its2) g1 g2 fun hA hz hTI hTO y1 y2 _ kk => iter_zip (b := false) hz ?_
      have I2 : Inv X pins σ H1 { s0 with heap := hA } := I1.kept (t' := s0.toks) kk
      exact ⟨_, [s0.heap.objs.size + 4, s0.heap.objs.size + 2, s0.heap.objs.size + 3, s0.heap.objs.size, s0.heap.objs.size + 1], _, _, H1, rfl, I2, turn_z2 (sep_new2 lt1 lt2) (Nat.ne_of_lt lt1) (Nat.ne_of_lt (Nat.lt_of_lt_of_le lt2 (Nat.le_add_right _ 1))), ⟨hz, hTI, ⟨_, _, hTO⟩, SqIt.begin y1, SqIt.begin y2⟩, frs, q1⟩
theorem turn_z3 {P : Program} {w : World} {K : PySem.W.Frag} {elts : List Expr} {kk : Nat} {tpos : Pos} {z TI TO i1 i2 i3 : Addr} {p1 p2 p3 : Bool × Addr} {b : Bool} (S : Sep3 z TI TO i1 i2 i3 [i1, p1.2] [i2, p2.2] [i3, p3.2]) (ne1 : p1.2 ≠ i1) (ne2 : p2.2 ≠ i2) (ne3 : p3.2 ≠ i3) :
    Turn P w K (.Tuple elts kk tpos) (ItZ K [p1, p2, p3]) [z, TI, TO, i1, i2, i3] z (fun i h => ZipO h z TI TO .none b ∧ TupO h TI #[.ref i1, .ref i2, .ref i3] ∧ (∃ a1 a2 a3, TupO h TO #[a1, a2, a3]) ∧ SqIt h i1 p1 i ∧ SqIt h i2 p2 i ∧ SqIt h i3 p3 i) where
  mem := by simp
  obj := fun i h st c hc => by
    obtain ⟨hz, hTI, ⟨a1, a2, a3, hTO⟩, h1, h2, h3⟩ := st
    have e : c = z ∨ c = TI ∨ c = TO ∨ c = i1 ∨ c = i2 ∨ c = i3 := by simpa using hc
    rcases e with q | q | q | q | q | q
    · rw [q]; exact ⟨_, hz, fun v q => nomatch q⟩
    · rw [q]; exact ⟨_, hTI, fun v q => nomatch q⟩
    · rw [q]; exact ⟨_, hTO, fun v q => nomatch q⟩
    · rw [q]; exact h1.obj
    · rw [q]; exact h2.obj
    · rw [q]; exact h3.obj
  keep := fun i h h2 st k => by
    obtain ⟨hz, hTI, ⟨a1, a2, a3, hTO⟩, h1, h2, h3⟩ := st
    exact ⟨k z (by simp) _ hz, k TI (by simp) _ hTI, ⟨a1, a2, a3, k TO (by simp) _ hTO⟩, h1.at fun o q => k i1 (by simp) o q, h2.at fun o q => k i2 (by simp) o q, h3.at fun o q => k i3 (by simp) o q⟩
  item := by
    intro X hP hw hK hc i pins s σ H E I hf st hg
    subst hP hw hK
    obtain ⟨hz, hTI, ⟨a1, a2, a3, hTO⟩, h1, h2, h3⟩ := st
    obtain ⟨vs, hv⟩ := hg
    cases hv with
    | cons r1 hv1 =>
      rename_i v1 ws1
      obtain ⟨xs1, hq1, hx1⟩ := r1
      obtain ⟨its1, rv1, q1, _⟩ := sq_seq I hq1
      obtain ⟨u1, hu1, ru1⟩ := rv1.get hx1
      have g1 : its1.toArray[i]? = some u1 := by simpa using hu1
      have l1 : i < its1.toArray.size := by have := (List.getElem?_eq_some_iff.mp hu1).1; simpa using this
      cases hv1 with
      | cons r2 hv2 =>
        rename_i v2 ws2
        obtain ⟨xs2, hq2, hx2⟩ := r2
        obtain ⟨its2, rv2, q2, _⟩ := sq_seq I hq2
        obtain ⟨u2, hu2, ru2⟩ := rv2.get hx2
        have g2 : its2.toArray[i]? = some u2 := by simpa using hu2
        have l2 : i < its2.toArray.size := by have := (List.getElem?_eq_some_iff.mp hu2).1; simpa using this
        cases hv2 with
        | cons r3 hv3 =>
          rename_i v3 ws3
          obtain ⟨xs3, hq3, hx3⟩ := r3
          obtain ⟨its3, rv3, q3, _⟩ := sq_seq I hq3
          obtain ⟨u3, hu3, ru3⟩ := rv3.get hx3
          have g3 : its3.toArray[i]? = some u3 := by simpa using hu3
          have l3 : i < its3.toArray.size := by have := (List.getElem?_eq_some_iff.mp hu3).1; simpa using this
          cases hv3
          have hzl : z < s.heap.objs.size := Heap.lt_size hz
          refine py_item3 S (draws_of (A := X.A.in1) (I.ok.hd hc) i1 p1 ne1 its1) (draws_of (A := X.A.in1) (I.ok.hd hc) i2 p2 ne2 its2) (draws_of (A := X.A.in1) (I.ok.hd hc) i3 p3 ne3 its3) hz hTI hTO ⟨h1, q1⟩ ⟨h2, q2⟩ ⟨h3, q3⟩ l1 l2 l3 fun x1 x2 x3 hA tk y1 y2 y3 z2 TO2 n1 n2 n3 hT hk => ?_
          obtain rfl : u1 = x1 := Option.some.inj (g1.symm.trans y1)
          obtain rfl : u2 = x2 := Option.some.inj (g2.symm.trans y2)
          obtain rfl : u3 = x3 := Option.some.inj (g3.symm.trans y3)
          refine ⟨_, rfl, go_zip (s := { s with heap := hA, toks := tk }) z2 fun hB z3 sb => ?_⟩
          replace sb : Heap.SameBut z hA hB := sb
          have hT2 : hB.get? s.heap.objs.size = some { cls := .type "tuple", data := .seq #[u1, u2, u3] } := (sb.2 _ (Nat.ne_of_gt hzl)).trans hT
          have new : ObjOk X.prog X.w (upd H s.heap.objs.size (.tup [v1, v2, v3])) hB s.heap.objs.size (.tup [v1, v2, v3]) := ⟨by show 3 ≤ sizeLine; decide, [u1, u2, u3], (.cons ru1 (.cons ru2 (.cons ru3 .nil))), ⟨_, hT2, rfl, _, rfl⟩⟩
          have I1 : Inv X pins σ (upd H s.heap.objs.size (.tup [v1, v2, v3])) { s with heap := hB, toks := tk } := I.turnedNew (t' := tk) (ch := [z, TI, TO, i1, i2, i3]) (fun c o hb q => (sb.2 c (fun q => hb (by simp [q]))).trans (hk c o (fun q => hb (by simp [q])) (fun q => hb (by simp [q])) (fun q => hb (by simp [q])) (fun q => hb (by simp [q])) (fun q => hb (by simp [q])) q)) hf (Nat.le_refl _) new
          refine ⟨.ref s.heap.objs.size, _, I1, rfl, ⟨_, _, rfl, I.hok.fresh (Nat.le_refl _), rfl, (.cons (fun l hl => by rw [sq_inj I hl hq1]; exact hx1) (.cons (fun l hl => by rw [sq_inj I hl hq2]; exact hx2) (.cons (fun l hl => by rw [sq_inj I hl hq3]; exact hx3) .nil)))⟩, ⟨z3, (sb.2 _ S.zTI.symm).trans (hk _ _ S.zTI.symm S.TOTI.symm S.I1 S.I2 S.I3 hTI), ⟨u1, u2, u3, (sb.2 _ S.zTO.symm).trans TO2⟩, (n1.1.at fun o q => (sb.2 _ (fun q => S.z1 (by rw [← q]; exact S.m1))).trans q), (n2.1.at fun o q => (sb.2 _ (fun q => S.z2 (by rw [← q]; exact S.m2))).trans q), (n3.1.at fun o q => (sb.2 _ (fun q => S.z3 (by rw [← q]; exact S.m3))).trans q)⟩, fun c hcm => ?_⟩
          have hlt : c < s.heap.objs.size := by
            have e : c = z ∨ c = TI ∨ c = TO ∨ c = i1 ∨ c = i2 ∨ c = i3 := by simpa using hcm
            rcases e with q | q | q | q | q | q
            · rw [q]; exact hzl
            · rw [q]; exact Heap.lt_size hTI
            · rw [q]; exact Heap.lt_size hTO
            · rw [q]; obtain ⟨_, e1, _⟩ := h1.obj; exact Heap.lt_size e1
            · rw [q]; obtain ⟨_, e1, _⟩ := h2.obj; exact Heap.lt_size e1
            · rw [q]; obtain ⟨_, e1, _⟩ := h3.obj; exact Heap.lt_size e1
          rw [upd_ne (Nat.ne_of_lt hlt)]
          exact (hf c hcm).1
  done := by
    intro X hP hw hK hc i pins s σ H E I hf st hg
    subst hP hw hK
    obtain ⟨hz, hTI, ⟨a1, a2, a3, hTO⟩, h1, h2, h3⟩ := st
    obtain ⟨xs1, hq1, hx1⟩ := hg p1 (by simp)
    obtain ⟨its1, rv1, q1, _⟩ := sq_seq I hq1
    have l1 : its1.toArray.size = i := by have := rv1.length; simp; omega
    have D1 := draws_of (prog := X.prog) (w := X.w) (A := X.A.in1) (I.ok.hd hc) i1 p1 ne1 its1
    rw [l1] at D1
    obtain ⟨xs2, hq2, hx2⟩ := hg p2 (by simp)
    obtain ⟨its2, rv2, q2, _⟩ := sq_seq I hq2
    have l2 : its2.toArray.size = i := by have := rv2.length; simp; omega
    have D2 := draws_of (prog := X.prog) (w := X.w) (A := X.A.in1) (I.ok.hd hc) i2 p2 ne2 its2
    rw [l2] at D2
    obtain ⟨xs3, hq3, hx3⟩ := hg p3 (by simp)
    obtain ⟨its3, rv3, q3, _⟩ := sq_seq I hq3
    have l3 : its3.toArray.size = i := by have := rv3.length; simp; omega
    have D3 := draws_of (prog := X.prog) (w := X.w) (A := X.A.in1) (I.ok.hd hc) i3 p3 ne3 its3
    rw [l3] at D3
    exact py_end3 (I.ok.hd hc) S D1 D2 D3 hz hTI hTO ⟨h1, q1⟩ ⟨h2, q2⟩ ⟨h3, q3⟩ fun h2 hk => ⟨rfl, I.turnedL (t' := s.toks) (ch := [z, TI, TO, i1, i2, i3]) (fun c o hb q => hk c o (fun q => hb (by simp [q])) (fun q => hb (by simp [q])) (fun q => hb (by simp [q])) (fun q => hb (by simp [q])) (fun q => hb (by simp [q])) q) hf⟩
  self := fun A i s Q E st h => iter_zip st.1 h
theorem sep_new3 {M : Nat} {p1 p2 p3 : Bool × Addr} (h1 : p1.2 < M) (h2 : p2.2 < M) (h3 : p3.2 < M) : Sep3 (M + 5) (M + 3) (M + 4) M (M + 1) (M + 2) [M, p1.2] [M + 1, p2.2] [M + 2, p3.2] where
  zTO := by show (M + 5 : Nat) ≠ M + 4; omega
  zTI := by show (M + 5 : Nat) ≠ M + 3; omega
  TOTI := by show (M + 4 : Nat) ≠ M + 3; omega
  m1 := by simp
  z1 := nin_new (a := p1.2) 5 0 h1 (by decide)
  T1 := nin_new (a := p1.2) 4 0 h1 (by decide)
  I1 := by show (M + 3 : Nat) ≠ M; omega
  s2_1 := nin_new (a := p1.2) 1 0 h1 (by decide)
  s3_1 := nin_new (a := p1.2) 2 0 h1 (by decide)
  m2 := by simp
  z2 := nin_new (a := p2.2) 5 1 h2 (by decide)
  T2 := nin_new (a := p2.2) 4 1 h2 (by decide)
  I2 := by show (M + 3 : Nat) ≠ M + 1; omega
  s1_2 := nin_new (a := p2.2) 0 1 h2 (by decide)
  s3_2 := nin_new (a := p2.2) 2 1 h2 (by decide)
  m3 := by simp
  z3 := nin_new (a := p3.2) 5 2 h3 (by decide)
  T3 := nin_new (a := p3.2) 4 2 h3 (by decide)
  I3 := by show (M + 3 : Nat) ≠ M + 2; omega
  s1_3 := nin_new (a := p3.2) 0 2 h3 (by decide)
  s2_3 := nin_new (a := p3.2) 1 2 h3 (by decide)
theorem pi_z3s {X : Cx} {e1 e2 e3 : Expr} {ta : TA} {p pos tpos : Pos} {elts : List Expr} {kk : Nat} {jj : Nat} {kp kp2 : Pos} {fl : List Bool} (hfl : fl.length = 3) (hg : Gl X "zip") (hm : X.mg "zip" = none) (ha : PA X [e1, e2, e3] ta)
    (hs : starEach [e1, e2, e3] X.env = (false, eval e1 X.env) :: starEach [e2, e3] X.env := by rfl) (hpl : (backTo pos (starEach [e2, e3] X.env)).any (·.1) = false := by rfl) :
    PI X (.Tuple elts kk tpos) (.Call (.Name "zip" p) [e1, e2, e3] [⟨some "strict", .Constant (.bool true) jj kp, kp2⟩] pos) (iZ X.K fl ta) := by
  refine ⟨fun pins s σ H R I h => ?_⟩
  refine wpAny_Call_Name_kw (ld_blt I hg hm PyProof.Rows.boot_zip ?_)
  refine PySem.W.callWith_of (P := fun _ => True) ?_ (fun h _ => looks_ty "zip" True.intro) ?_
  · show ((backTo pos (starEach _ X.env)).any (·.1) || false) = false
    rw [hs, Bool.or_false]
    exact hpl
  have he : backTo pos (starEach [e1, e2, e3] X.env) = (false, eval e1 X.env) :: backTo pos (starEach [e2, e3] X.env) := by rw [hs]; rfl
  rw [he]
  refine PyProof.Rows.evalArgs_kwB rfl ?_
  rw [← he]
  refine thn (ha.run pos pins s σ H _ I h) fun us s0 ⟨vs, H1, I0, r1, q1⟩ => ?_
  refine PyProof.Rows.kws_cons (Constant_bool (PyProof.Rows.kws_nil ⟨True.intro, ?_⟩))
  have I1 := I0
  obtain ⟨l, ev, el, hl, q1⟩ := q1
  subst ev
  obtain ⟨b1, b2, b3, rfl⟩ : ∃ b1 b2 b3 : Bool, fl = [b1, b2, b3] := match fl, hfl with | [_, _, _], _ => ⟨_, _, _, rfl⟩
  obtain ⟨c1, c2, c3, rfl⟩ : ∃ c1 c2 c3 : Addr, l = [c1, c2, c3] := match l, el with | [_, _, _], _ => ⟨_, _, _, rfl⟩
  cases r1 with
  | cons r_1 rr1 =>
    cases r_1
    cases rr1 with
    | cons r_2 rr2 =>
      cases r_2
      cases rr2 with
      | cons r_3 rr3 =>
        cases r_3
        cases rr3
        obtain ⟨xs1, hq1⟩ := hl (b1, c1) (by simp)
        obtain ⟨its1, rv1, g1, lt1⟩ := sq_seq I1 hq1
        obtain ⟨xs2, hq2⟩ := hl (b2, c2) (by simp)
        obtain ⟨its2, rv2, g2, lt2⟩ := sq_seq I1 hq2
        obtain ⟨xs3, hq3⟩ := hl (b3, c3) (by simp)
        obtain ⟨its3, rv3, g3, lt3⟩ := sq_seq I1 hq3
        have frs : ∀ c, c ∈ [s0.heap.objs.size + 5, s0.heap.objs.size + 3, s0.heap.objs.size + 4, s0.heap.objs.size, s0.heap.objs.size + 1, s0.heap.objs.size + 2] → FpOk X pins H1 c := fun c hcm => by
          have e : c = s0.heap.objs.size + 5 ∨ c = s0.heap.objs.size + 3 ∨ c = s0.heap.objs.size + 4 ∨ c = s0.heap.objs.size ∨ c = s0.heap.objs.size + 1 ∨ c = s0.heap.objs.size + 2 := by simpa using hcm
          have hle : s0.heap.objs.size ≤ c := by
            rcases e with q | q | q | q | q | q
            · rw [q]; exact Nat.le_add_right _ _
            · rw [q]; exact Nat.le_add_right _ _
            · rw [q]; exact Nat.le_add_right _ _
            · rw [q]; exact Nat.le_refl _
            · rw [q]; exact Nat.le_add_right _ _
            · rw [q]; exact Nat.le_add_right _ _
          exact I1.fpOk hle (I1.hok.fresh hle)
        refine begins_strict3 (begins_of (b1, c1) its1) (begins_of (b2, c2) its2) (begins_of (b3, c3) its3) g1 g2 g3 fun hA hz hTI hTO y1 y2 y3 kk => iter_zip hz ?_
        have I2 : Inv X pins σ H1 { s0 with heap := hA } := I1.kept (t' := s0.toks) kk
        exact ⟨_, [s0.heap.objs.size + 5, s0.heap.objs.size + 3, s0.heap.objs.size + 4, s0.heap.objs.size, s0.heap.objs.size + 1, s0.heap.objs.size + 2], _, _, H1, rfl, I2, turn_z3 (sep_new3 lt1 lt2 lt3) (Nat.ne_of_lt lt1) (Nat.ne_of_lt (Nat.lt_of_lt_of_le lt2 (Nat.le_add_right _ 1))) (Nat.ne_of_lt (Nat.lt_of_lt_of_le lt3 (Nat.le_add_right _ 2))), ⟨hz, hTI, ⟨_, _, _, hTO⟩, SqIt.begin y1, SqIt.begin y2, SqIt.begin y3⟩, frs, q1⟩
theorem pi_z3 {X : Cx} {e1 e2 e3 : Expr} {ta : TA} {p pos tpos : Pos} {elts : List Expr} {kk : Nat} {fl : List Bool} (hfl : fl.length = 3) (hg : Gl X "zip") (hm : X.mg "zip" = none) (ha : PA X [e1, e2, e3] ta)
    (hs : starEach [e1, e2, e3] X.env = (false, eval e1 X.env) :: starEach [e2, e3] X.env := by rfl) (hpl : (backTo pos (starEach [e2, e3] X.env)).any (·.1) = false := by rfl) :
    PI X (.Tuple elts kk tpos) (.Call (.Name "zip" p) [e1, e2, e3] [] pos) (iZ X.K fl ta) := by
  refine ⟨fun pins s σ H R I h => ?_⟩
  refine Call_ (ld_blt I hg hm PyProof.Rows.boot_zip (PyProof.Rows.callWith_type1 (thn (ha.run pos pins s σ H _ I h) fun us s0 ⟨vs, H1, I1, r1, q1⟩ => ?_) hs hpl))
  obtain ⟨l, ev, el, hl, q1⟩ := q1
  subst ev
  obtain ⟨b1, b2, b3, rfl⟩ : ∃ b1 b2 b3 : Bool, fl = [b1, b2, b3] := match fl, hfl with | [_, _, _], _ => ⟨_, _, _, rfl⟩
  obtain ⟨c1, c2, c3, rfl⟩ : ∃ c1 c2 c3 : Addr, l = [c1, c2, c3] := match l, el with | [_, _, _], _ => ⟨_, _, _, rfl⟩
  cases r1 with
  | cons r_1 rr1 =>
    cases r_1
    cases rr1 with
    | cons r_2 rr2 =>
      cases r_2
      cases rr2 with
      | cons r_3 rr3 =>
        cases r_3
        cases rr3
        obtain ⟨xs1, hq1⟩ := hl (b1, c1) (by simp)
        obtain ⟨its1, rv1, g1, lt1⟩ := sq_seq I1 hq1
        obtain ⟨xs2, hq2⟩ := hl (b2, c2) (by simp)
        obtain ⟨its2, rv2, g2, lt2⟩ := sq_seq I1 hq2
        obtain ⟨xs3, hq3⟩ := hl (b3, c3) (by simp)
        obtain ⟨its3, rv3, g3, lt3⟩ := sq_seq I1 hq3
        have frs : ∀ c, c ∈ [s0.heap.objs.size + 5, s0.heap.objs.size + 3, s0.heap.objs.size + 4, s0.heap.objs.size, s0.heap.objs.size + 1, s0.heap.objs.size + 2] → FpOk X pins H1 c := fun c hcm => by
          have e : c = s0.heap.objs.size + 5 ∨ c = s0.heap.objs.size + 3 ∨ c = s0.heap.objs.size + 4 ∨ c = s0.heap.objs.size ∨ c = s0.heap.objs.size + 1 ∨ c = s0.heap.objs.size + 2 := by simpa using hcm
          have hle : s0.heap.objs.size ≤ c := by
            rcases e with q | q | q | q | q | q
            · rw [q]; exact Nat.le_add_right _ _
            · rw [q]; exact Nat.le_add_right _ _
            · rw [q]; exact Nat.le_add_right _ _
            · rw [q]; exact Nat.le_refl _
            · rw [q]; exact Nat.le_add_right _ _
            · rw [q]; exact Nat.le_add_right _ _
          exact I1.fpOk hle (I1.hok.fresh hle)
        refine zip_begins3 (begins_of (b1, c1) its1) (begins_of (b2, c2) its2) (begins_of (b3, c3) its3) g1 g2 g3 fun hA hz hTI hTO y1 y2 y3 _ kk => iter_zip (b := false) hz ?_
        have I2 : Inv X pins σ H1 { s0 with heap := hA } := I1.kept (t' := s0.toks) kk
        exact ⟨_, [s0.heap.objs.size + 5, s0.heap.objs.size + 3, s0.heap.objs.size + 4, s0.heap.objs.size, s0.heap.objs.size + 1, s0.heap.objs.size + 2], _, _, H1, rfl, I2, turn_z3 (sep_new3 lt1 lt2 lt3) (Nat.ne_of_lt lt1) (Nat.ne_of_lt (Nat.lt_of_lt_of_le lt2 (Nat.le_add_right _ 1))) (Nat.ne_of_lt (Nat.lt_of_lt_of_le lt3 (Nat.le_add_right _ 2))), ⟨hz, hTI, ⟨_, _, _, hTO⟩, SqIt.begin y1, SqIt.begin y2, SqIt.begin y3⟩, frs, q1⟩
end CZ

namespace CS
open PySem PySem.Spec PyProof.Rows L2
/-! ### rules beside the layer's -/
section
variable {X : Cx}
/-- a product, whatever the reason that it fits -/
theorem op_mulI : OpR X (binaryOp .Mult) (rI IntMulOk fun i j => .int (i * j)) := opI fun _ _ _ _ _ _ _ hc q => mul_int q hc
/-- list + list, however each is known -/
def rCatR (K : PySem.W.Frag) : R2 := fun x y H Q => ∃ l b xs zs, x = .ref l ∧ y = .ref b ∧ SqL K H l xs ∧ SqL K H b zs ∧ xs.length + zs.length ≤ sizeLine ∧ ∀ p, H p = none → Q (.ref p) (upd H p (.lst (xs ++ zs)))
theorem op_catR : OpR X (binaryOp .Add) (rCatR X.K) := by
  intro pins s σ H x y v u Q I rx ry h
  obtain ⟨l, b, xs, zs, rfl, rfl, hH, hB, hz, q⟩ := h
  cases rx
  cases ry
  obtain ⟨its, r, p1, _⟩ := I.list hH
  obtain ⟨its2, r2, p2, _⟩ := I.list hB
  obtain ⟨⟨cls, dd, data, sl⟩, ho, hc, n, hd⟩ := id p1.isList
  obtain ⟨⟨cls2, dd2, data2, sl2⟩, ho2, hc2, n2, hd2⟩ := id p2.isList
  simp only at hc hd hc2 hd2
  subst hc hd hc2 hd2
  have l1 := r.length
  have l2 := r2.length
  have ea : its.toArray ++ its2.toArray = (its ++ its2).toArray := by simp
  refine concat_meets ⟨_, ho, rfl⟩ ⟨_, ho2, rfl⟩ noFill_list_add seq_list_add PySem.F.slot_list_add PySem.F.entry_list_add (PySem.F.args_list_add_2 _ _) (list_addW l b its.toArray its2.toArray n n2 dd dd2 sl sl2 (by rw [List.size_toArray, List.size_toArray]; omega)) ⟨ho, ho2, ?_⟩
  rw [ea]
  exact ⟨.ref _, _, I.lnew (t' := s.toks) (r.append r2) (by rw [List.length_append]; omega), rfl, q _ I.fresh⟩
theorem pi_or {tg it : Expr} {w1 w2 : TI} (h1 : PI X tg it w1) (h2 : PI X tg it w2) : PI X tg it (fun σ H R => w1 σ H R ∨ w2 σ H R) :=
  ⟨fun pins s σ H R I h => h.elim (fun z => h1.run pins s σ H R I z) fun z => h2.run pins s σ H R I z⟩
end
/-! ### calls by keywords alone -/
def pick {α : Type} (js : List Nat) (l : List α) : List α := js.filterMap fun j => l[j]?
theorem vals_pick {xs : List V} {us : List Value} (r : Vals xs us) : ∀ js : List Nat, Vals (pick js xs) (pick js us)
  | [] => .nil
  | j :: js => by
    have ih := vals_pick r js
    unfold pick at ih ⊢
    cases e : xs[j]? with
    | none =>
      have e2 := r.none_of e
      rw [List.filterMap_cons_none (by rw [e]), List.filterMap_cons_none (by rw [e2])]
      exact ih
    | some x =>
      obtain ⟨u, e2, ru⟩ := r.get e
      rw [List.filterMap_cons_some (by rw [e]), List.filterMap_cons_some (by rw [e2])]
      exact .cons ru ih
theorem kbn_of {K : PySem.W.Frag} {x qual : Str} {st : Stmt} {f : Addr} {fd : FuncData} {ps : List Str} (F : Fun K x qual st f fd) (n : Nat) (ks : List Str) (js : List Nat)
    (h : ∀ (kV doc pm : Value) (an : Option Addr) (cdv ct : Value) (us ws : List Value), us.length = n → ws.length = ks.length → bindArgs (PySem.W.fnOf x qual (defArgs st) (defBody st) (defScope st) .none kV doc pm an cdv ct) ⟨us, ks.zip ws⟩ = pure (ps.zip (pick js (us ++ ws)))) :
    KBn K fd ps n ks (fun us ws => pick js (us ++ ws)) (fun vs zs => pick js (vs ++ zs)) := by
  obtain ⟨oc, od, kV, doc, pm, an, cdv, ct, osl, rfl, lk, hcd⟩ := F.ex
  exact ⟨fun s us ws _ h1 h2 => .of_eq (h kV doc pm an cdv ct us ws h1 h2), fun r1 r2 => vals_pick (r1.append r2) js⟩
section
variable {X : Cx} {CX : CXT} {k n : Nat} {f C : Addr} {fd : FuncData} {ps ks : List Str} {sp : Sp} {E : XK} {x m : Str} {p pos apos : Pos} {o : Expr} {kws : List Keyword} {ta : TE} {tk : TA} {g : List Value → List Value → List Value} {gV : List V → List V → List V}
theorem run_kw {pins : List (Addr × Obj)} {σ : L2.St} {H : Hp} {s : Shared} {Q : VK} {us ws : List Value} {vs zs : List V} (F : FnOk X.prog X.w X.K X.mg X.base CX k f fd ps sp) (hr : Room k X.A) (hb : KBn X.K fd ps n ks g gV) (hx : Passes CX X E)
    (I : Inv X pins σ H s) (r : Vals vs us) (rz : Vals zs ws) (l1 : vs.length = n) (l2 : zs.length = ks.length) (h : sp (gV vs zs) H Q E) : wpAny (model X.prog X.w) X.A (call (.ref f) us (ks.zip ws)) (EP X pins σ Q) X.xe s := by
  refine wpAny_call (codeAny_mono (F.run X.A X.stack s H ⟨us, ks.zip ws⟩ (g us ws) (gV vs zs) Q E hr I.env0 (hb.to s us ws I.kIn (r.length.symm.trans l1) (rz.length.symm.trans l2)) (hb.rel r rz) h) fun res s2 hq => ?_)
  cases res with
  | error e => exact hx pins σ H s e s2 I hq
  | ok fl =>
    cases fl with
    | ret u => exact I.after hq
    | next => exact False.elim hq
    | brk => exact False.elim hq
    | cont => exact False.elim hq
/-- f(k = v, ..) -/
def tCallKw (m : Nat) (sp : Sp) (gV : List V → List V → List V) (E : XK) (tk : TA) : TE := fun σ H Q => tk σ H fun zs H1 => zs.length = m ∧ sp (gV [] zs) H1 Q E
theorem pe_callKw (F : FnOk X.prog X.w X.K X.mg X.base CX k f fd ps sp) (hr : Room k X.A) (hg : Gl X x) (hm : X.mg x = some (.ref f)) (hk : PySem.W.keepIn X.K (.ref f) = true) (hb : KBn X.K fd ps 0 ks g gV) (hx : Passes CX X E) (hkw : PK X kws tk)
    (hall : (backToKw pos (keywordEach kws X.env)).all (·.1.isSome) = true := by rfl) (hks : (backToKw pos (keywordEach kws X.env)).filterMap (·.1) = ks := by rfl) (hdb : (x == ("__debug__" : Str)) = false := by decide)
    (hpl : ((backTo pos (starEach [] X.env)).any (·.1) || (backToKw pos (keywordEach kws X.env)).any (·.1.isNone)) = false := by rfl) :
    PE X (.Call (.Name x p) [] kws pos) (tCallKw ks.length sp gV E tk) := by
  refine ⟨fun pins s σ H Q I h => ?_⟩
  refine wpAny_Call_Name_kw (ld_glob I hg hm ?_ hdb)
  refine PySem.W.callWith_KW0 (h₀ := X.base) I.ok.mod.kin hk hall (thn (hkw.run pos pins s σ H _ I h) fun ws s2 ⟨zs, H2, I2, rz, l2, q2⟩ => ⟨I2.kIn, ?_⟩) hpl
  rw [hks]
  exact run_kw (us := []) (vs := []) F hr hb hx I2 .nil rz rfl l2 q2
/-- o.m(k = v, ..) -/
def tMethKw (C : Addr) (m : Str) (n : Nat) (sp : Sp) (gV : List V → List V → List V) (E : XK) (ta : TE) (tk : TA) : TE := fun σ H Q => ta σ H fun x H1 => ∃ a dx fs, x = .ref a ∧ H1 a = some (.ins C dx fs) ∧ fs.lookup m = none ∧
  tk σ H1 fun zs H2 => zs.length = n ∧ sp (gV [x] zs) H2 Q E
theorem pe_methKw {pl : Sem Bool} (he : PE X o ta) (c : Cls X.K C) (hm : Meth X.K C m f) (F : FnOk X.prog X.w X.K X.mg X.base CX k f fd ps sp) (hr : Room k X.A) (hb : KBn X.K fd ps 1 ks g gV) (hx : Passes CX X E) (hkw : PK X kws tk)
    (hall : (backToKw pos (keywordEach kws X.env)).all (·.1.isSome) = true := by rfl) (hks : (backToKw pos (keywordEach kws X.env)).filterMap (·.1) = ks := by rfl)
    (hpl : ((backTo pos (starEach [] X.env)).any (·.1) || (backToKw pos (keywordEach kws X.env)).any (·.1.isNone)) = false := by rfl)
    (ht : eval (.Call (.Attribute o m apos) [] kws pos) X.env = (do
      let ov ← eval o X.env
      standAt apos.atName
      let (f, first) ← holding [ov] (getMethod ov m pl)
      callWith pos f first (backTo pos (starEach [] X.env)) (backToKw pos (keywordEach kws X.env))) := by rfl) :
    PE X (.Call (.Attribute o m apos) [] kws pos) (tMethKw C m ks.length sp gV E ta tk) := by
  refine ⟨fun pins s σ H Q I h => ?_⟩
  refine PySem.W.methodCall_KW (pl := pl) (thn (he.run pins s σ H _ I h) fun u s1 ⟨x, H1, I1, rx, a, dx, fs, ex, ea, l, q⟩ => ?_) ht
  subst ex
  obtain rfl : u = Value.ref a := rx
  refine getmeth_ok I1 ea c hm l ?_
  refine PySem.W.callWith_KW0 (first := [.ref a]) (h₀ := X.base) I.ok.mod.kin hm.kp hall (thn (hkw.run pos pins s1 σ H1 _ I1 q) fun ws s2 ⟨zs, H2, I2, rz, l2, q2⟩ => ⟨I2.kIn, ?_⟩) hpl
  rw [hks]
  exact run_kw (us := [.ref a]) (vs := [.ref a]) F hr hb hx I2 (.cons rfl .nil) rz rfl l2 q2
end
/-! ### heaps that grow -/
abbrev Ex (H H2 : Hp) : Prop := Evl.Ex H H2
theorem exr {H : Hp} : Ex H H := fun _ _ h => h
theorem exn {H : Hp} {p : Addr} {o : HO} (h : H p = none) : Ex H (upd H p o) := Evl.Ex.new h
theorem SqK.mono {K : PySem.W.Frag} {H H2 : Hp} {p : Bool × Addr} {xs : List V} (e : Ex H H2) (h : CZ.SqK K H p xs) : CZ.SqK K H2 p xs := by
  obtain ⟨b, a⟩ := p
  cases b
  · exact Evl.ex_l e h
  · exact Evl.ex_t e h
/-- a comprehension whose element and tests leave all that stood: out i is what stands behind i turns -/
theorem lc_out {J : It} {n : Nat} {G : Hp → Prop} {Y : Nat → Hp → V → Hp → Prop} (w : Walk J n G Y) {g : TG} {tt : TT} {te : TE} {vs : List Nat} {σ : L2.St} {H1 : Hp} {D : Addr} {Qd : Hp → Prop} (out : Nat → List V) (h0 : out 0 = []) (hD : H1 D = none)
    (hlen : ∀ i, i < n → (out i).length < sizeLine) (hG : ∀ H, Ex H1 H → G H)
    (hs : ∀ i x H H2 (Nx : Hp → Prop), i < n → Ex H1 H → H D = some (.lst (out i)) → Y i H x H2 →
      (∀ y H5, Ex H H5 → out (i + 1) = out i ++ [y] → ∃ acc, H5 D = some (.lst acc) ∧ acc.length < sizeLine ∧ Nx (upd H5 D (.lst (acc ++ [y])))) → (∀ H4, Ex H H4 → out (i + 1) = out i → Nx H4) →
      g x (wipe σ vs) H2 fun σ2 H3 => wipe σ2 vs = wipe σ vs ∧ tt σ2 H3 fun b H4 => if b = true then te σ2 H4 fun y H5 => ∃ acc, H5 D = some (.lst acc) ∧ acc.length < sizeLine ∧ Nx (upd H5 D (.lst (acc ++ [y]))) else Nx H4)
    (hd : ∀ H, Ex H1 H → H D = some (.lst (out n)) → Qd H) :
    ∃ W : Nat → Nat → Hp → Prop, (∃ m, W 0 m (upd H1 D (.lst []))) ∧ ∀ i m H, W i m H →
      (J.stop i H ∧ Qd H) ∨ (J.go i H ∧ ∃ Nx : Hp → Prop, (∀ H2, Nx H2 → ∃ m2, m2 < m ∧ W (i + 1) m2 H2) ∧ ∀ x H2, J.yld i H x H2 → g x (wipe σ vs) H2 fun σ2 H3 => wipe σ2 vs = wipe σ vs ∧ tt σ2 H3 fun b H4 =>
        if b = true then te σ2 H4 fun y H5 => ∃ acc, H5 D = some (.lst acc) ∧ acc.length < sizeLine ∧ Nx (upd H5 D (.lst (acc ++ [y]))) else Nx H4) := by
  refine lc_it w (fun i H => Ex H1 H ∧ H D = some (.lst (out i))) ⟨exn hD, by rw [upd_same, h0]⟩ (fun i H _ p => hG H p.1) (fun i x H H2 hi p y => ?_) (fun H p => hd H p.1 p.2)
  refine hs i x H H2 _ hi p.1 p.2 y (fun y2 H5 e eo => ⟨out i, e D _ p.2, hlen i hi, fun b o q => ?_, by rw [upd_same, eo]⟩) (fun H4 e eo => ⟨fun b o q => e b o (p.1 b o q), by rw [eo]; exact e D _ p.2⟩)
  rw [upd_ne (ne_of_none q hD)]
  exact e b o (p.1 b o q)
/-- .. whose list is known: vals -/
theorem lc_vals {J : It} {n : Nat} {G : Hp → Prop} {Y : Nat → Hp → V → Hp → Prop} (w : Walk J n G Y) {g : TG} {te : TE} {vs : List Nat} {σ : L2.St} {H1 : Hp} {D : Addr} {Qd : Hp → Prop} (vals : List V) (hn : vals.length = n) (hl : n ≤ 10000000) (hD : H1 D = none)
    (hG : ∀ H, Ex H1 H → G H)
    (hs : ∀ i x H H2 (R : VK), i < n → Ex H1 H → Y i H x H2 → (∀ y H5, Ex H H5 → vals[i]? = some y → R y H5) → g x (wipe σ vs) H2 fun σ2 H3 => wipe σ2 vs = wipe σ vs ∧ te σ2 H3 R)
    (hg : ∀ x σ2 H2 (R R2 : L2.St → Hp → Prop), (∀ σ3 H3, R σ3 H3 → R2 σ3 H3) → g x σ2 H2 R → g x σ2 H2 R2)
    (hd : ∀ H, Ex H1 H → H D = some (.lst vals) → Qd H) :
    ∃ W : Nat → Nat → Hp → Prop, (∃ m, W 0 m (upd H1 D (.lst []))) ∧ ∀ i m H, W i m H →
      (J.stop i H ∧ Qd H) ∨ (J.go i H ∧ ∃ Nx : Hp → Prop, (∀ H2, Nx H2 → ∃ m2, m2 < m ∧ W (i + 1) m2 H2) ∧ ∀ x H2, J.yld i H x H2 → g x (wipe σ vs) H2 fun σ2 H3 => wipe σ2 vs = wipe σ vs ∧ tYes σ2 H3 fun b H4 =>
        if b = true then te σ2 H4 fun y H5 => ∃ acc, H5 D = some (.lst acc) ∧ acc.length < sizeLine ∧ Nx (upd H5 D (.lst (acc ++ [y]))) else Nx H4) := by
  refine lc_out w (fun i => vals.take i) rfl hD (fun i hi => ?_) hG (fun i x H H2 Nx hi e hDi y kA _ => ?_) (fun H e h => hd H e ?_)
  · rw [List.length_take]
    exact Nat.lt_of_le_of_lt (Nat.le_trans (Nat.min_le_right _ _) (by rw [hn]; exact hl)) (by decide)
  · refine hg _ _ _ _ _ (fun σ3 H3 q => ⟨q.1, ?_⟩) (hs i x H H2 (fun y H5 => ∃ acc, H5 D = some (.lst acc) ∧ acc.length < sizeLine ∧ Nx (upd H5 D (.lst (acc ++ [y])))) hi e y fun y2 H5 e5 ev => kA y2 H5 e5 ?_)
    · exact q.2
    · rw [List.take_add_one, ev]
      rfl
  · rw [h, List.take_of_length_le (by rw [hn]; exact Nat.le_refl _)]
theorem gmono_name {i : Nat} : ∀ x σ2 H2 (R R2 : L2.St → Hp → Prop), (∀ σ3 H3, R σ3 H3 → R2 σ3 H3) → gName i x σ2 H2 R → gName i x σ2 H2 R2 := fun _ _ _ _ _ h q => h _ _ q
theorem gmono_nil : ∀ vs σ2 H2 (R R2 : L2.St → Hp → Prop), (∀ σ3 H3, R σ3 H3 → R2 σ3 H3) → gNil vs σ2 H2 R → gNil vs σ2 H2 R2 := fun _ _ _ _ _ h q => ⟨q.1, h _ _ q.2⟩
theorem gmono_cons {t : TG} {u : TGs} (ht : ∀ x σ2 H2 (R R2 : L2.St → Hp → Prop), (∀ σ3 H3, R σ3 H3 → R2 σ3 H3) → t x σ2 H2 R → t x σ2 H2 R2) (hu : ∀ x σ2 H2 (R R2 : L2.St → Hp → Prop), (∀ σ3 H3, R σ3 H3 → R2 σ3 H3) → u x σ2 H2 R → u x σ2 H2 R2) :
    ∀ vs σ2 H2 (R R2 : L2.St → Hp → Prop), (∀ σ3 H3, R σ3 H3 → R2 σ3 H3) → gCons t u vs σ2 H2 R → gCons t u vs σ2 H2 R2 := fun vs σ2 H2 R R2 h q => by
  obtain ⟨v, r, e, q⟩ := q
  exact ⟨v, r, e, ht _ _ _ _ _ (fun σ3 H3 z => hu _ _ _ _ _ h z) q⟩
theorem gmono_tup {K : PySem.W.Frag} {n : Nat} {t : TGs} (ht : ∀ x σ2 H2 (R R2 : L2.St → Hp → Prop), (∀ σ3 H3, R σ3 H3 → R2 σ3 H3) → t x σ2 H2 R → t x σ2 H2 R2) :
    ∀ v σ2 H2 (R R2 : L2.St → Hp → Prop), (∀ σ3 H3, R σ3 H3 → R2 σ3 H3) → gTup K n t v σ2 H2 R → gTup K n t v σ2 H2 R2 := fun v σ2 H2 R R2 h q => by
  obtain ⟨a, xs, e, h1, h2, q⟩ := q
  exact ⟨a, xs, e, h1, h2, ht _ _ _ _ _ h q⟩
/-! ### a list or a tuple walked -/
def ItS (K : PySem.W.Frag) (p : Bool × Addr) : It := if p.1 = true then Itt K p.2 else Itl K p.2
def iSeq (K : PySem.W.Frag) (tl : TE) : TI := fun σ H R => tl σ H fun x H1 => ∃ p : Bool × Addr, x = .ref p.2 ∧ (∃ xs, CZ.SqK K H1 p xs) ∧ R (ItS K p) H1
theorem pi_seq {X : Cx} {tg l : Expr} {tl : TE} (hl : PE X l tl) : PI X tg l (iSeq X.K tl) := by
  refine ⟨fun pins s σ H R I h => ?_⟩
  refine thn (hl.run pins s σ H _ I h) fun v s1 ⟨x, H1, I1, r1, q1⟩ => ?_
  obtain ⟨⟨b, a⟩, ex, ⟨xs, hq⟩, q⟩ := q1
  subst ex
  cases r1
  obtain ⟨its, rv, g, lt⟩ := CZ.sq_seq I1 hq
  have fp : ∀ c ∈ [s1.heap.objs.size], FpOk X pins H1 c := fun c hc => by
    have e : c = s1.heap.objs.size := by simpa using hc
    rw [e]
    exact I1.fpOk (Nat.le_refl _) (I1.hok.fresh (Nat.le_refl _))
  refine (CZ.begins_of (b, a) its).iter _ _ _ _ s1 _ g ?_
  have I2 : Inv X pins σ H1 { s1 with heap := s1.heap.push (CZ.itO (b, a)) } := I1.kept (t' := s1.toks) fun c o e => Heap.get?_push_of_some _ e
  cases b
  · exact ⟨_, [s1.heap.objs.size], _, _, H1, rfl, I2, turn_list a _, ⟨_, Heap.get?_push_size _ rfl, rfl, rfl⟩, fp, q⟩
  · exact ⟨_, [s1.heap.objs.size], _, _, H1, rfl, I2, turn_tuple a _, ⟨_, Heap.get?_push_size _ rfl, rfl, rfl⟩, fp, q⟩
theorem walk_seq {K : PySem.W.Frag} {p : Bool × Addr} {xs : List V} : Walk (ItS K p) xs.length (fun H => CZ.SqK K H p xs) (YAt xs) := by
  obtain ⟨b, a⟩ := p
  cases b
  · exact walk_list
  · exact walk_tup
theorem itt {c : Bool} {A B : Prop} (h : c = true) (a : A) : if c = true then A else B := by rw [if_pos h]; exact a
theorem itf {c : Bool} {A B : Prop} (h : c = false) (b : B) : if c = true then A else B := by rw [h, if_neg Bool.false_ne_true]; exact b
theorem map_get {α : Type} {f : α → V} {l : List α} {i : Nat} {x : V} (h : (l.map f)[i]? = some x) : ∃ n, l[i]? = some n ∧ x = f n := by
  rw [List.getElem?_map] at h
  cases e : l[i]? with
  | none => rw [e] at h; cases h
  | some n => rw [e] at h; exact ⟨n, rfl, (Option.some.inj h).symm⟩
end CS

namespace CS
open PySem PySem.Spec PyProof.Rows L2
def top (i : Nat) : Stmt := PySem.Challenge.pw_calledseats_k52_two_targets_on_large_rin.main.body.getD i (.Pass ⟨0, 0, 0, 0⟩)
abbrev s_is_integer : Stmt := top 4
abbrev N_is_integer : List Str := ["value"]
theorem sc_is_integer : FnScope N_is_integer ["value"] (defScope s_is_integer) := ⟨rfl, rfl, rfl, by decide +kernel, rfl, by decide +kernel, by decide +kernel⟩
abbrev s_is_at_least : Stmt := top 5
abbrev N_is_at_least : List Str := ["value", "low"]
theorem sc_is_at_least : FnScope N_is_at_least ["value", "low"] (defScope s_is_at_least) := ⟨rfl, rfl, rfl, by decide +kernel, rfl, by decide +kernel, by decide +kernel⟩
abbrev s_is_between : Stmt := top 6
abbrev N_is_between : List Str := ["value", "low", "high"]
theorem sc_is_between : FnScope N_is_between ["value", "low", "high"] (defScope s_is_between) := ⟨rfl, rfl, rfl, by decide +kernel, rfl, by decide +kernel, by decide +kernel⟩
abbrev s_require_at_least : Stmt := top 7
abbrev N_require_at_least : List Str := ["value", "low", "name"]
theorem sc_require_at_least : FnScope N_require_at_least ["value", "low", "name"] (defScope s_require_at_least) := ⟨rfl, rfl, rfl, by decide +kernel, rfl, by decide +kernel, by decide +kernel⟩
abbrev s_greatest_common_divisor : Stmt := top 8
abbrev N_greatest_common_divisor : List Str := ["first", "second"]
theorem sc_greatest_common_divisor : FnScope N_greatest_common_divisor ["first", "second"] (defScope s_greatest_common_divisor) := ⟨rfl, rfl, rfl, by decide +kernel, rfl, by decide +kernel, by decide +kernel⟩
abbrev s_odd_part : Stmt := top 9
abbrev N_odd_part : List Str := ["number"]
theorem sc_odd_part : FnScope N_odd_part ["number"] (defScope s_odd_part) := ⟨rfl, rfl, rfl, by decide +kernel, rfl, by decide +kernel, by decide +kernel⟩
abbrev s_require_place : Stmt := top 11
abbrev N_require_place : List Str := ["size", "place", "name"]
theorem sc_require_place : FnScope N_require_place ["size", "place", "name"] (defScope s_require_place) := ⟨rfl, rfl, rfl, by decide +kernel, rfl, by decide +kernel, by decide +kernel⟩
abbrev s_inverse : Stmt := top 12
abbrev N_inverse : List Str := ["number", "modulus", "low", "high", "quotient"]
theorem sc_inverse : FnScope N_inverse ["number", "modulus"] (defScope s_inverse) := ⟨rfl, rfl, rfl, by decide +kernel, rfl, by decide +kernel, by decide +kernel⟩
abbrev s_require_two : Stmt := top 13
abbrev N_require_two : List Str := ["size", "first", "second", "place"]
theorem sc_require_two : FnScope N_require_two ["size", "first", "second", "place"] (defScope s_require_two) := ⟨rfl, rfl, rfl, by decide +kernel, rfl, by decide +kernel, by decide +kernel⟩
abbrev s_two_target_sum : Stmt := top 14
abbrev N_two_target_sum : List Str := ["size", "first", "second", "place", "gap", "distance", "shared", "calls", "period", "factor", "count"]
theorem sc_two_target_sum : FnScope N_two_target_sum ["size", "first", "second", "place"] (defScope s_two_target_sum) := ⟨rfl, rfl, rfl, by decide +kernel, rfl, by decide +kernel, by decide +kernel⟩
abbrev s_min_calls_two : Stmt := top 15
abbrev N_min_calls_two : List Str := ["size", "first", "second", "place", "found"]
theorem sc_min_calls_two : FnScope N_min_calls_two ["size", "first", "second", "place"] (defScope s_min_calls_two) := ⟨rfl, rfl, rfl, by decide +kernel, rfl, by decide +kernel, by decide +kernel⟩
abbrev s_law_cell_at : Stmt := top 17
abbrev N_law_cell_at : List Str := ["_law_script", "_law_k"]
theorem sc_law_cell_at : FnScope N_law_cell_at ["_law_script", "_law_k"] (defScope s_law_cell_at) := ⟨rfl, rfl, rfl, by decide +kernel, rfl, by decide +kernel, by decide +kernel⟩
abbrev s_law_source : Stmt := top 18
abbrev N_law_source : List Str := ["_law_cell"]
theorem sc_law_source : FnScope N_law_source ["_law_cell"] (defScope s_law_source) := ⟨rfl, rfl, rfl, by decide +kernel, rfl, by decide +kernel, by decide +kernel⟩
abbrev s_law_take : Stmt := top 19
abbrev N_law_take : List Str := ["_law_source_here", "_law_bound", "_law_digit", "_law_prime", "_law_mixed"]
theorem sc_law_take : FnScope N_law_take ["_law_source_here", "_law_bound"] (defScope s_law_take) := ⟨rfl, rfl, rfl, by decide +kernel, rfl, by decide +kernel, by decide +kernel⟩
abbrev s_law_large : Stmt := top 20
abbrev N_law_large : List Str := ["_law_source_here", "_law_bound", "_law_total", "_law_part"]
theorem sc_law_large : FnScope N_law_large ["_law_source_here", "_law_bound"] (defScope s_law_large) := ⟨rfl, rfl, rfl, by decide +kernel, rfl, by decide +kernel, by decide +kernel⟩
abbrev s_law_gcd : Stmt := top 21
abbrev N_law_gcd : List Str := ["_law_a", "_law_b"]
theorem sc_law_gcd : FnScope N_law_gcd ["_law_a", "_law_b"] (defScope s_law_gcd) := ⟨rfl, rfl, rfl, by decide +kernel, rfl, by decide +kernel, by decide +kernel⟩
abbrev s_law_inverse : Stmt := top 22
abbrev N_law_inverse : List Str := ["_law_number", "_law_modulus", "_law_low", "_law_high", "_law_quotient"]
theorem sc_law_inverse : FnScope N_law_inverse ["_law_number", "_law_modulus"] (defScope s_law_inverse) := ⟨rfl, rfl, rfl, by decide +kernel, rfl, by decide +kernel, by decide +kernel⟩
abbrev s_law_count : Stmt := top 23
abbrev N_law_count : List Str := ["_law_ring_here", "_law_gap", "_law_away", "_law_shared"]
theorem sc_law_count : FnScope N_law_count ["_law_ring_here", "_law_gap", "_law_away"] (defScope s_law_count) := ⟨rfl, rfl, rfl, by decide +kernel, rfl, by decide +kernel, by decide +kernel⟩
abbrev s_law_ring : Stmt := top 24
abbrev N_law_ring : List Str := ["_law_source_here", "_law_power", "_law_odd", "_law_sizes_here"]
theorem sc_law_ring : FnScope N_law_ring ["_law_source_here"] (defScope s_law_ring) := ⟨rfl, rfl, rfl, by decide +kernel, rfl, by decide +kernel, by decide +kernel⟩
abbrev s_law_scene : Stmt := top 25
abbrev N_law_scene : List Str := ["_law_source_here", "_law_ring_here", "_law_start", "_law_unit", "_law_gap", "_law_other", "_law_half", "_law_moved", "_law_spots"]
theorem sc_law_scene : FnScope N_law_scene ["_law_source_here"] (defScope s_law_scene) := ⟨rfl, rfl, rfl, by decide +kernel, rfl, by decide +kernel, by decide +kernel⟩
abbrev s_law_right : Stmt := top 26
abbrev N_law_right : List Str := ["_law_ring_here", "_law_start", "_law_other", "_law_spot", "_law_gap", "_law_away", "_law_odd", "_law_found", "_law_enough", "_law_fewer"]
theorem sc_law_right : FnScope N_law_right ["_law_ring_here", "_law_start", "_law_other", "_law_spot"] (defScope s_law_right) := ⟨rfl, rfl, rfl, by decide +kernel, rfl, by decide +kernel, by decide +kernel⟩
abbrev s_law : Stmt := top 27
abbrev N_law : List Str := ["_law_script", "_law_cell", "_law_source_here", "_law_turn", "_law_ring_here", "_law_start", "_law_other", "_law_spot"]
theorem sc_law : FnScope N_law ["_law_script"] (defScope s_law) := ⟨rfl, rfl, rfl, by decide +kernel, rfl, by decide +kernel, by decide +kernel⟩
/-- what the top has written -/
structure TX (K : PySem.W.Frag) (mg : Str → Option Value) where
  f_is_integer : Addr
  fd_is_integer : FuncData
  F_is_integer : Fun K "is_integer" "is_integer" s_is_integer f_is_integer fd_is_integer
  b_is_integer : Binds K fd_is_integer ["value"] []
  m_is_integer : mg "is_integer" = some (.ref f_is_integer)
  f_is_at_least : Addr
  fd_is_at_least : FuncData
  F_is_at_least : Fun K "is_at_least" "is_at_least" s_is_at_least f_is_at_least fd_is_at_least
  b_is_at_least : Binds K fd_is_at_least ["value", "low"] []
  m_is_at_least : mg "is_at_least" = some (.ref f_is_at_least)
  f_is_between : Addr
  fd_is_between : FuncData
  F_is_between : Fun K "is_between" "is_between" s_is_between f_is_between fd_is_between
  b_is_between : Binds K fd_is_between ["value", "low", "high"] []
  m_is_between : mg "is_between" = some (.ref f_is_between)
  f_require_at_least : Addr
  fd_require_at_least : FuncData
  F_require_at_least : Fun K "require_at_least" "require_at_least" s_require_at_least f_require_at_least fd_require_at_least
  b_require_at_least : Binds K fd_require_at_least ["value", "low", "name"] []
  m_require_at_least : mg "require_at_least" = some (.ref f_require_at_least)
  f_greatest_common_divisor : Addr
  fd_greatest_common_divisor : FuncData
  F_greatest_common_divisor : Fun K "greatest_common_divisor" "greatest_common_divisor" s_greatest_common_divisor f_greatest_common_divisor fd_greatest_common_divisor
  b_greatest_common_divisor : Binds K fd_greatest_common_divisor ["first", "second"] []
  m_greatest_common_divisor : mg "greatest_common_divisor" = some (.ref f_greatest_common_divisor)
  f_odd_part : Addr
  fd_odd_part : FuncData
  F_odd_part : Fun K "odd_part" "odd_part" s_odd_part f_odd_part fd_odd_part
  b_odd_part : Binds K fd_odd_part ["number"] []
  m_odd_part : mg "odd_part" = some (.ref f_odd_part)
  f_require_place : Addr
  fd_require_place : FuncData
  F_require_place : Fun K "require_place" "require_place" s_require_place f_require_place fd_require_place
  b_require_place : Binds K fd_require_place ["size", "place", "name"] []
  m_require_place : mg "require_place" = some (.ref f_require_place)
  f_inverse : Addr
  fd_inverse : FuncData
  F_inverse : Fun K "inverse" "inverse" s_inverse f_inverse fd_inverse
  b_inverse : Binds K fd_inverse ["number", "modulus"] []
  m_inverse : mg "inverse" = some (.ref f_inverse)
  f_require_two : Addr
  fd_require_two : FuncData
  F_require_two : Fun K "require_two" "require_two" s_require_two f_require_two fd_require_two
  b_require_two : Binds K fd_require_two ["size", "first", "second", "place"] []
  m_require_two : mg "require_two" = some (.ref f_require_two)
  f_two_target_sum : Addr
  fd_two_target_sum : FuncData
  F_two_target_sum : Fun K "two_target_sum" "two_target_sum" s_two_target_sum f_two_target_sum fd_two_target_sum
  b_two_target_sum : Binds K fd_two_target_sum ["size", "first", "second", "place"] []
  m_two_target_sum : mg "two_target_sum" = some (.ref f_two_target_sum)
  f_min_calls_two : Addr
  fd_min_calls_two : FuncData
  F_min_calls_two : Fun K "min_calls_two" "min_calls_two" s_min_calls_two f_min_calls_two fd_min_calls_two
  b_min_calls_two : Binds K fd_min_calls_two ["size", "first", "second", "place"] []
  m_min_calls_two : mg "min_calls_two" = some (.ref f_min_calls_two)
  f_law_cell_at : Addr
  fd_law_cell_at : FuncData
  F_law_cell_at : Fun K "_law_cell_at" "_law_cell_at" s_law_cell_at f_law_cell_at fd_law_cell_at
  b_law_cell_at : Binds K fd_law_cell_at ["_law_script", "_law_k"] []
  m_law_cell_at : mg "_law_cell_at" = some (.ref f_law_cell_at)
  f_law_source : Addr
  fd_law_source : FuncData
  F_law_source : Fun K "_law_source" "_law_source" s_law_source f_law_source fd_law_source
  b_law_source : Binds K fd_law_source ["_law_cell"] []
  m_law_source : mg "_law_source" = some (.ref f_law_source)
  f_law_take : Addr
  fd_law_take : FuncData
  F_law_take : Fun K "_law_take" "_law_take" s_law_take f_law_take fd_law_take
  b_law_take : Binds K fd_law_take ["_law_source_here", "_law_bound"] []
  m_law_take : mg "_law_take" = some (.ref f_law_take)
  f_law_large : Addr
  fd_law_large : FuncData
  F_law_large : Fun K "_law_large" "_law_large" s_law_large f_law_large fd_law_large
  b_law_large : Binds K fd_law_large ["_law_source_here", "_law_bound"] []
  m_law_large : mg "_law_large" = some (.ref f_law_large)
  f_law_gcd : Addr
  fd_law_gcd : FuncData
  F_law_gcd : Fun K "_law_gcd" "_law_gcd" s_law_gcd f_law_gcd fd_law_gcd
  b_law_gcd : Binds K fd_law_gcd ["_law_a", "_law_b"] []
  m_law_gcd : mg "_law_gcd" = some (.ref f_law_gcd)
  f_law_inverse : Addr
  fd_law_inverse : FuncData
  F_law_inverse : Fun K "_law_inverse" "_law_inverse" s_law_inverse f_law_inverse fd_law_inverse
  b_law_inverse : Binds K fd_law_inverse ["_law_number", "_law_modulus"] []
  m_law_inverse : mg "_law_inverse" = some (.ref f_law_inverse)
  f_law_count : Addr
  fd_law_count : FuncData
  F_law_count : Fun K "_law_count" "_law_count" s_law_count f_law_count fd_law_count
  b_law_count : Binds K fd_law_count ["_law_ring_here", "_law_gap", "_law_away"] []
  m_law_count : mg "_law_count" = some (.ref f_law_count)
  f_law_ring : Addr
  fd_law_ring : FuncData
  F_law_ring : Fun K "_law_ring" "_law_ring" s_law_ring f_law_ring fd_law_ring
  b_law_ring : Binds K fd_law_ring ["_law_source_here"] []
  m_law_ring : mg "_law_ring" = some (.ref f_law_ring)
  f_law_scene : Addr
  fd_law_scene : FuncData
  F_law_scene : Fun K "_law_scene" "_law_scene" s_law_scene f_law_scene fd_law_scene
  b_law_scene : Binds K fd_law_scene ["_law_source_here"] []
  m_law_scene : mg "_law_scene" = some (.ref f_law_scene)
  f_law_right : Addr
  fd_law_right : FuncData
  F_law_right : Fun K "_law_right" "_law_right" s_law_right f_law_right fd_law_right
  b_law_right : Binds K fd_law_right ["_law_ring_here", "_law_start", "_law_other", "_law_spot"] []
  m_law_right : mg "_law_right" = some (.ref f_law_right)
  f_law : Addr
  fd_law : FuncData
  F_law : Fun K "law" "law" s_law f_law fd_law
  b_law : Binds K fd_law ["_law_script"] []
  m_law : mg "law" = some (.ref f_law)
  z_abs : mg "abs" = none
  z_bool : mg "bool" = none
  z_int : mg "int" = none
  z_isinstance : mg "isinstance" = none
  z_len : mg "len" = none
  z_range : mg "range" = none
/-- not an int (a bool is none) -/
def NotI (K : PySem.W.Frag) (H : Hp) (x : V) : Prop := ∃ t b1 b2, TyX K H x t ∧ PySem.W.kitOne K t (.type "int") = some b1 ∧ PySem.W.kitOne K t (.type "bool") = some b2 ∧ (b1 && !b2) = false
/-- what x is, if an int -/
def IsI (K : PySem.W.Frag) (H : Hp) (x : V) : Option Int → Prop
  | some i => x = .int i
  | none => NotI K H x
def atLeast : Option Int → Int → Bool
  | some i, low => decide (low ≤ i)
  | none, _ => false
def between : Option Int → Int → Int → Bool
  | some i, low, high => decide (low ≤ i) && decide (i ≤ high)
  | none, _, _ => false

section
variable {P : Program} {w : World} {K : PySem.W.Frag} {mg : Str → Option Value} {base : Heap}
def sp_is_integer (K : PySem.W.Frag) : Sp := fun vs H Q _ => ∃ x o, vs = [x] ∧ IsI K H x o ∧ Q (.bl o.isSome) H
theorem ok_is_integer (T : TX K mg) : FnOk P w K mg base CX0 1 T.f_is_integer T.fd_is_integer ["value"] (sp_is_integer K) := by
  refine T.F_is_integer.ok sc_is_integer (fun vs H Q E h => ?_) (fun cdv A outer s H vs Q E hr h => ?_)
  · obtain ⟨x, o, rfl, _⟩ := h
    rfl
  · obtain ⟨x, o, rfl, hx, k⟩ := h
    refine ⟨_, (pss_one (ps_ret (pe_and (pe_callB call_isi (by rfl) T.z_isinstance (by decide +kernel) (pa_cons (pv 0) (pa_cons (pe_bltn (v := .ty "int") rfl T.z_int (by decide +kernel) rfl) pa_nil))) (pe_one (pe_not (pe_callB call_isi (by rfl) T.z_isinstance (by decide +kernel) (pa_cons (pv 0) (pa_cons (pe_bltn (v := .ty "bool") rfl T.z_bool (by decide +kernel) rfl) pa_nil)))))))), ?_⟩
    cases o with
    | some i =>
      cases hx
      exact ⟨_, rfl, _, _, _, _, true, rfl, .ty _, .base (.int i), kit_ty (by decide +kernel), _, rfl, _, rfl, _, _, _, _, false, rfl, .ty _, .base (.int i), kit_ty (by decide +kernel), _, rfl, k⟩
    | none =>
      obtain ⟨t, b1, b2, ht, h1, h2, hb⟩ := hx
      refine ⟨_, rfl, _, _, _, _, b1, rfl, .ty _, ht, h1, _, rfl, ?_⟩
      cases b1 with
      | false => exact k
      | true =>
        refine ⟨_, rfl, _, _, _, _, b2, rfl, .ty _, ht, h2, _, rfl, ?_⟩
        have e : (!b2) = false := hb
        rw [e]
        exact k
def sp_is_at_least (K : PySem.W.Frag) : Sp := fun vs H Q _ => ∃ x o low, vs = [x, .int low] ∧ IsI K H x o ∧ Q (.bl (atLeast o low)) H
theorem ok_is_at_least (T : TX K mg) : FnOk P w K mg base CX0 2 T.f_is_at_least T.fd_is_at_least ["value", "low"] (sp_is_at_least K) := by
  refine T.F_is_at_least.ok sc_is_at_least (fun vs H Q E h => ?_) (fun cdv A outer s H vs Q E hr h => ?_)
  · obtain ⟨x, o, low, rfl, _⟩ := h
    rfl
  · obtain ⟨x, o, low, rfl, hx, k⟩ := h
    refine ⟨_, (pss_one (ps_ret (pe_and (pe_call (ok_is_integer T) hr rfl T.m_is_integer T.F_is_integer.kp T.b_is_integer .nil pass0 (pa_cons (pv 0) pa_nil)) (pe_one (pe_cmpR op_ge (pv 0) (pv 1) (nomark _)))))), ?_⟩
    refine ⟨_, rfl, x, o, rfl, hx, _, rfl, ?_⟩
    cases o with
    | none => exact k
    | some i =>
      cases hx
      exact ⟨_, rfl, _, rfl, _, _, rfl, rfl, k⟩
def sp_is_between (K : PySem.W.Frag) : Sp := fun vs H Q _ => ∃ x o low high, vs = [x, .int low, .int high] ∧ IsI K H x o ∧ Q (.bl (between o low high)) H
theorem ok_is_between (T : TX K mg) : FnOk P w K mg base CX0 2 T.f_is_between T.fd_is_between ["value", "low", "high"] (sp_is_between K) := by
  refine T.F_is_between.ok sc_is_between (fun vs H Q E h => ?_) (fun cdv A outer s H vs Q E hr h => ?_)
  · obtain ⟨x, o, low, high, rfl, _⟩ := h
    rfl
  · obtain ⟨x, o, low, high, rfl, hx, k⟩ := h
    refine ⟨_, (pss_one (ps_ret (pe_and (pe_call (ok_is_integer T) hr rfl T.m_is_integer T.F_is_integer.kp T.b_is_integer .nil pass0 (pa_cons (pv 0) pa_nil)) (pe_one (pe_chain op_le op_le (pv 1) (pv 0) (pv 2)))))), ?_⟩
    refine ⟨_, rfl, x, o, rfl, hx, _, rfl, ?_⟩
    cases o with
    | none => exact k
    | some i =>
      cases hx
      refine ⟨_, rfl, _, rfl, _, _, rfl, rfl, _, rfl, ?_⟩
      refine ite2 (fun c => ?_) (fun c => ?_)
      · have c1 : low ≤ i := of_decide_eq_true c
        refine ⟨_, rfl, _, _, rfl, rfl, ?_⟩
        have e : between (some i) low high = decide (i ≤ high) := by show (decide (low ≤ i) && decide (i ≤ high)) = _; rw [c]; rfl
        rw [e] at k
        exact k
      · have e : between (some i) low high = false := by show (decide (low ≤ i) && decide (i ≤ high)) = _; rw [Bool.eq_false_iff.mpr c]; rfl
        rw [e] at k
        exact k
end

/-- a table of these sizes stands at a -/
def TabAt (C : Addr) (H : Hp) (a : Addr) (ns : List Int) : Prop := ∃ dx t, H a = some (.ins C dx [("rings", .ref t)]) ∧ H t = some (.tup (ns.map V.int))
theorem TabAt.mono {C : Addr} {H H2 : Hp} {a : Addr} {ns : List Int} (e : Ex H H2) (h : TabAt C H a ns) : TabAt C H2 a ns := by
  obtain ⟨dx, t, h1, h2⟩ := h
  exact ⟨dx, t, e _ _ h1, e _ _ h2⟩
/-- a tracked list (false) or tuple (true) -/
def SqH (H : Hp) (p : Bool × Addr) (xs : List V) : Prop := if p.1 = true then H p.2 = some (.tup xs) else H p.2 = some (.lst xs)
theorem SqH.sq {K : PySem.W.Frag} {H : Hp} {p : Bool × Addr} {xs : List V} (h : SqH H p xs) : CZ.SqK K H p xs := by
  obtain ⟨b, a⟩ := p
  cases b
  · exact SqL.of (show H a = some (.lst xs) from h)
  · exact SqT.of (show H a = some (.tup xs) from h)
theorem SqH.mono {H H2 : Hp} {p : Bool × Addr} {xs : List V} (e : Ex H H2) (h : SqH H p xs) : SqH H2 p xs := by
  obtain ⟨b, a⟩ := p
  cases b
  · exact e _ _ (show H a = some (.lst xs) from h)
  · exact e _ _ (show H a = some (.tup xs) from h)
theorem SqH.ty {K : PySem.W.Frag} {H : Hp} {p : Bool × Addr} {xs : List V} (h : SqH H p xs) : TyX K H (.ref p.2) (.type (if p.1 = true then "tuple" else "list")) := by
  obtain ⟨b, a⟩ := p
  cases b
  · exact .base (.lst (show H a = some (.lst xs) from h))
  · exact .base (.tup (show H a = some (.tup xs) from h))
/-- sizes of a table -/
structure SzOk (ns : List Int) : Prop where
  pos : ns ≠ []
  le : ns.length ≤ 4
  one : ∀ n ∈ ns, 1 ≤ n
theorem len_line {α : Type} {l : List α} (h : l.length ≤ 4) : l.length ≤ sizeLine := Nat.le_trans h (by decide)
theorem take_lt {α : Type} {l : List α} (h : l.length ≤ 1000) (i : Nat) : (l.take i).length < sizeLine := by
  rw [List.length_take]
  exact Nat.lt_of_le_of_lt (Nat.le_trans (Nat.min_le_right _ _) h) (by decide)
theorem take_more {α : Type} {l : List α} {i : Nat} {x : α} (h : l[i]? = some x) : l.take (i + 1) = l.take i ++ [x] := by
  rw [List.take_add_one, h]
  rfl
theorem kit_seq {K : PySem.W.Frag} (b : Bool) : PySem.W.kitAny K (.type (if b = true then "tuple" else "list")) [.type "list", .type "tuple"] = some true := by
  cases b
  · exact kitAny_cons (b := true) (kit_ty (by decide +kernel)) (fun h => nomatch h) (fun _ => rfl)
  · exact kitAny_cons (b := false) (kit_ty (by decide +kernel)) (fun _ => kitAny_cons (b := true) (kit_ty (by decide +kernel)) (fun h => nomatch h) (fun _ => rfl)) (fun h => nomatch h)
theorem sq_or {K : PySem.W.Frag} {H : Hp} {b : Bool} {a : Addr} {xs : List V} (h : SqH H (b, a) xs) : SqL K H a xs ∨ SqT K H a xs := by
  cases b
  · exact .inl (SqL.of (show H a = some (.lst xs) from h))
  · exact .inr (SqT.of (show H a = some (.tup xs) from h))
section
variable {P : Program} {w : World} {K : PySem.W.Frag} {mg : Str → Option Value} {base : Heap}
end

theorem TyX.mono {K : PySem.W.Frag} {H H2 : Hp} {x : V} {t : Value} (e : Ex H H2) (h : TyX K H x t) : TyX K H2 x t := by
  cases h with
  | base h =>
    cases h with
    | non => exact .base .non
    | bl x => exact .base (.bl x)
    | int x => exact .base (.int x)
    | str x => exact .base (.str x)
    | flt x => exact .base (.flt x)
    | lst h => exact .base (.lst (e _ _ h))
    | frz h => exact .base (.frz (e _ _ h))
    | tup h => exact .base (.tup (e _ _ h))
    | dK h => exact .base (.dK (e _ _ h))
    | dT h => exact .base (.dT (e _ _ h))
    | ins h a b c d f => exact .base (.ins (e _ _ h) a b c d f)
  | byt b => exact .byt b
  | set h => exact .set (e _ _ h)
  | kList a b => exact .kList a b
  | kTuple a b => exact .kTuple a b
  | kDict a b => exact .kDict a b
  | fTuple h => exact .fTuple (e _ _ h)
  | fDict h => exact .fDict (e _ _ h)
theorem IsI.mono {K : PySem.W.Frag} {H H2 : Hp} {x : V} {o : Option Int} (e : Ex H H2) (h : IsI K H x o) : IsI K H2 x o := by
  cases o with
  | some i => exact h
  | none =>
    obtain ⟨t, b1, b2, ht, r⟩ := h
    exact ⟨t, b1, b2, TyX.mono e ht, r⟩
theorem paired_get {α β : Type} {R : α → β → Prop} : ∀ {l : List α} {m : List β} {i : Nat} {x : α}, Paired R l m → l[i]? = some x → ∃ y, m[i]? = some y ∧ R x y
  | _, _, _, _, .nil, h => by simp at h
  | _, _, 0, _, .cons r _, h => by simp at h; subst h; exact ⟨_, rfl, r⟩
  | _, _, i + 1, x, .cons _ t, h => by
    obtain ⟨y, h1, h2⟩ := paired_get (i := i) (x := x) t (by simpa using h)
    exact ⟨y, by simpa using h1, h2⟩
/-- what an argument is as a tuple: its items, as ints or not -/
def TupA (K : PySem.W.Frag) (H : Hp) (x : V) : Option (List (Option Int)) → Prop
  | some os => ∃ a xs, x = .ref a ∧ H a = some (.tup xs) ∧ xs.length ≤ 1000 ∧ Paired (IsI K H) xs os
  | none => ∃ t, TyX K H x t ∧ PySem.W.kitOne K t (.type "tuple") = some false
theorem paired_ints {K : PySem.W.Frag} {H : Hp} : ∀ ps : List Int, Paired (IsI K H) (ps.map V.int) (ps.map some)
  | [] => .nil
  | p :: ps => .cons rfl (paired_ints ps)
theorem TupA.ints {K : PySem.W.Frag} {H : Hp} {a : Addr} {ps : List Int} (h : H a = some (.tup (ps.map V.int))) (hl : ps.length ≤ 1000) : TupA K H (.ref a) (some (ps.map some)) :=
  ⟨a, _, rfl, h, by rw [List.length_map]; exact hl, paired_ints ps⟩
def isSeatO (ns : List Int) : Option (List (Option Int)) → Bool
  | some os => decide (os.length = ns.length) && (List.zipWith (fun o n => between o 0 (n - 1)) os ns).all id
  | none => false
def isCallO (ns : List Int) : Option (List (Option Int)) → Bool
  | some os => decide (os.length = ns.length) && (os.map Option.isSome).all id
  | none => false
/-- a seat: one place a ring -/
def SeatOk : List Int → List Int → Prop
  | n :: ns, p :: ps => (0 ≤ p ∧ p < n) ∧ SeatOk ns ps
  | [], [] => True
  | _, _ => False
theorem SeatOk.len : ∀ {ns ps : List Int}, SeatOk ns ps → ps.length = ns.length
  | [], [], _ => rfl
  | _ :: _, _ :: _, h => by
    show _ + 1 = _ + 1
    rw [SeatOk.len h.2]
theorem seat_is : ∀ {ns ps : List Int}, SeatOk ns ps → (List.zipWith (fun o n => between o 0 (n - 1)) (ps.map some) ns).all id = true
  | [], [], _ => rfl
  | n :: ns, p :: ps, h => by
    have ih := seat_is h.2
    show (between (some p) 0 (n - 1) && _) = true
    rw [Bool.and_eq_true]
    refine ⟨?_, ih⟩
    show (decide (0 ≤ p) && decide (p ≤ n - 1)) = true
    rw [decide_eq_true h.1.1, decide_eq_true (by have := h.1.2; omega)]
    rfl
theorem isSeat_ok {ns ps : List Int} (h : SeatOk ns ps) : isSeatO ns (some (ps.map some)) = true := by
  show (decide ((ps.map some).length = ns.length) && _) = true
  rw [Bool.and_eq_true]
  exact ⟨decide_eq_true (by rw [List.length_map]; exact h.len), seat_is h⟩
theorem isCall_ok {ns cs : List Int} (h : cs.length = ns.length) : isCallO ns (some (cs.map some)) = true := by
  show (decide ((cs.map some).length = ns.length) && _) = true
  rw [Bool.and_eq_true]
  refine ⟨decide_eq_true (by rw [List.length_map]; exact h), ?_⟩
  rw [List.map_map, List.all_map, List.all_eq_true]
  exact fun _ _ => rfl
/-- a step by a multiple of a call -/
def shiftL : List Int → List Int → List Int → Int → List Int
  | n :: ns, p :: ps, c :: cs, f => (p + f * c) % n :: shiftL ns ps cs f
  | _, _, _, _ => []
theorem shift_len : ∀ {ns ps cs : List Int} {f : Int}, ps.length = ns.length → cs.length = ns.length → (shiftL ns ps cs f).length = ns.length
  | [], _, _, _, _, _ => by simp [shiftL]
  | _ :: ns, p :: ps, c :: cs, f, h1, h2 => by
    have ih := @shift_len ns ps cs f (by simpa using h1) (by simpa using h2)
    show (shiftL ns ps cs f).length + 1 = _ + 1
    rw [ih]
theorem shift_get : ∀ {ns ps cs : List Int} {f : Int} {i : Nat} {n p c : Int}, ns[i]? = some n → ps[i]? = some p → cs[i]? = some c → (shiftL ns ps cs f)[i]? = some ((p + f * c) % n)
  | n :: ns, p :: ps, c :: cs, f, 0, _, _, _, h1, h2, h3 => by
    simp at h1 h2 h3
    subst h1 h2 h3
    rfl
  | n :: ns, p :: ps, c :: cs, f, i + 1, a, b, d, h1, h2, h3 => by
    have ih := @shift_get ns ps cs f i a b d (by simpa using h1) (by simpa using h2) (by simpa using h3)
    show (shiftL ns ps cs f)[i]? = _
    exact ih
  | [], _, _, _, i, _, _, _, h1, _, _ => by simp at h1
  | _ :: _, [], _, _, i, _, _, _, _, h2, _ => by simp at h2
  | _ :: _, _ :: _, [], _, i, _, _, _, _, _, h3 => by simp at h3
theorem mul_ok {i j : Int} (h : (-(2 ^ 64) < i ∧ i < 2 ^ 64) ∨ (-(2 ^ 64) < j ∧ j < 2 ^ 64)) : IntMulOk i j := CMul.ok h
theorem zip_get {α β γ : Type} {f : α → β → γ} {l : List α} {m : List β} {i : Nat} {x : α} {y : β} (h1 : l[i]? = some x) (h2 : m[i]? = some y) : (List.zipWith f l m)[i]? = some (f x y) := by
  rw [List.getElem?_zipWith, h1, h2]
section
variable {P : Program} {w : World} {K : PySem.W.Frag} {mg : Str → Option Value} {base : Heap}
end

/-- all but what is at s stays -/
def XB (s : Addr) (H H2 : Hp) : Prop := ∀ c o, c ≠ s → H c = some o → H2 c = some o
theorem XB.refl {s : Addr} {H : Hp} : XB s H H := fun _ _ _ h => h
theorem XB.trans {s : Addr} {H H1 H2 : Hp} (a : XB s H H1) (b : XB s H1 H2) : XB s H H2 := fun c o n h => b c o n (a c o n h)
theorem XB.upd {s : Addr} {H : Hp} {o : HO} : XB s H (upd H s o) := fun c u n h => by rw [upd_ne n]; exact h
theorem XB.of {s : Addr} {H H2 : Hp} (e : Ex H H2) : XB s H H2 := fun c o _ h => e c o h
theorem XB.back {s : Addr} {H H2 : Hp} (e : XB s H H2) {p : Addr} (hn : p ≠ s) (h : H2 p = none) : H p = none := by
  cases q : H p with
  | none => rfl
  | some o => rw [e p o hn q] at h; cases h
theorem mod_lo {i n : Int} (h : 0 < n) : 0 ≤ i % n := Int.emod_nonneg i (by omega)
theorem mod_hi {i n : Int} (h : 0 < n) : i % n < n := Int.emod_lt_of_pos i h

theorem at_ex {xs : List Int} {r : Int} (h0 : 0 ≤ r) (h1 : r < xs.length) : ∃ v, v ∈ xs ∧ atI (xs.map V.int) r = some (.int v) := by
  obtain ⟨j, rfl⟩ : ∃ j : Nat, r = (j : Int) := ⟨r.toNat, by omega⟩
  have hj : j < xs.length := by omega
  refine ⟨xs[j], List.getElem_mem hj, atI_nat ?_⟩
  rw [List.getElem?_map, List.getElem?_eq_getElem hj]
  rfl
theorem pow2_pos (k : Nat) : (1 : Int) ≤ 2 ^ k := by
  have h : 0 < 2 ^ k := Nat.pow_pos (by decide)
  have e : ((2 ^ k : Nat) : Int) = (2 : Int) ^ k := by simp
  omega
theorem pow2_le {j k : Nat} (h : j ≤ k) : (2 : Int) ^ j ≤ 2 ^ k := by
  have h1 : 2 ^ j ≤ 2 ^ k := Nat.pow_le_pow_right (by decide) h
  have e1 : ((2 ^ j : Nat) : Int) = (2 : Int) ^ j := by simp
  have e2 : ((2 ^ k : Nat) : Int) = (2 : Int) ^ k := by simp
  omega
theorem shl_one {r : Int} (h0 : 0 ≤ r) (h1 : r ≤ 1000) : CShl 1 r := by
  obtain ⟨j, rfl⟩ : ∃ j : Nat, r = (j : Int) := ⟨r.toNat, by omega⟩
  exact shl_ok (n := 1) (by decide) (by omega)

/-! ### data -/
mutual
theorem eqv_refl : ∀ d : PyData, d.canLay0 = true → PyData.eqv d d = true
  | .none, _ => by simp only [PyData.eqv]
  | .bool b, _ => by simp only [PyData.eqv, beq_self_eq_true]
  | .int i, _ => by simp only [PyData.eqv, beq_self_eq_true]
  | .str x, _ => by simp only [PyData.eqv, beq_self_eq_true]
  | .list xs, h => by
    simp only [PyData.canLay0] at h
    simp only [PyData.eqv]
    exact eqvAll_refl xs h
  | .tuple xs, h => by
    simp only [PyData.canLay0] at h
    simp only [PyData.eqv]
    exact eqvAll_refl xs h
  | .dict _, h => by simp [PyData.canLay0] at h
theorem eqvAll_refl : ∀ ds : List PyData, PyData.canLayAll0 ds = true → PyData.eqvAll ds ds = true
  | [], _ => by simp only [PyData.eqvAll]
  | d :: ds, h => by
    simp only [PyData.canLayAll0, Bool.and_eq_true] at h
    simp only [PyData.eqvAll, Bool.and_eq_true]
    exact ⟨eqv_refl d h.1, eqvAll_refl ds h.2⟩
end
/-- data of a depth below n, in a form that may be laid -/
def Sh (n : Nat) (d : PyData) : Prop := d.canLay0 = true ∧ d.depth ≤ n
theorem Sh.ok {d : PyData} (h : Sh 60 d) : SeqAt.shaped d = true := by
  unfold SeqAt.shaped
  rw [h.1, decide_eq_true (Nat.le_trans h.2 (by decide))]
  rfl
theorem sh_int {n : Nat} (i : Int) : Sh n (.int i) := ⟨by simp only [PyData.canLay0], by simp only [PyData.depth]; omega⟩
theorem sh_bool {n : Nat} (i : Bool) : Sh n (.bool i) := ⟨by simp only [PyData.canLay0], by simp only [PyData.depth]; omega⟩
theorem sh_none {n : Nat} : Sh n .none := ⟨by simp only [PyData.canLay0], by simp only [PyData.depth]; omega⟩
theorem sh_all {n : Nat} : ∀ {ds : List PyData}, (∀ d ∈ ds, Sh n d) → PyData.canLayAll0 ds = true ∧ PyData.depthAll ds ≤ n
  | [], _ => ⟨by simp only [PyData.canLayAll0], by simp only [PyData.depthAll]; omega⟩
  | d :: ds, h => by
    obtain ⟨h1, h2⟩ := h d List.mem_cons_self
    obtain ⟨g1, g2⟩ := sh_all fun x hx => h x (List.mem_cons_of_mem _ hx)
    refine ⟨by simp only [PyData.canLayAll0, h1, g1, Bool.and_self], ?_⟩
    simp only [PyData.depthAll]
    omega
theorem sh_tuple {n : Nat} {ds : List PyData} (h : ∀ d ∈ ds, Sh n d) : Sh (n + 1) (.tuple ds) := by
  obtain ⟨h1, h2⟩ := sh_all h
  exact ⟨by simp only [PyData.canLay0, h1], by simp only [PyData.depth]; omega⟩
theorem sh_list {n : Nat} {ds : List PyData} (h : ∀ d ∈ ds, Sh n d) : Sh (n + 1) (.list ds) := by
  obtain ⟨h1, h2⟩ := sh_all h
  exact ⟨by simp only [PyData.canLay0, h1], by simp only [PyData.depth]; omega⟩
theorem Sh.up {n m : Nat} {d : PyData} (h : Sh n d) (e : n ≤ m) : Sh m d := ⟨h.1, Nat.le_trans h.2 e⟩
/-- a tuple of ints -/
abbrev iT (ns : List Int) : PyData := .tuple (ns.map PyData.int)
theorem sh_ints {n : Nat} (ns : List Int) : Sh (n + 1) (iT ns) := sh_tuple fun d hd => by
  obtain ⟨i, _, rfl⟩ := List.mem_map.mp hd
  exact sh_int i
theorem dpall_ints {K : PySem.W.Frag} {H : Hp} : ∀ ns : List Int, DpAll K H (ns.map V.int) (ns.map PyData.int)
  | [] => .nil
  | n :: ns => .cons (.int n) (dpall_ints ns)
theorem dp_ints {K : PySem.W.Frag} {H : Hp} {a : Addr} {ns : List Int} (h : H a = some (.tup (ns.map V.int))) : Dp K H (.ref a) (iT ns) := .tup (SqT.of h) (dpall_ints ns)
theorem eqvAll_ints : ∀ ns ms : List Int, PyData.eqvAll (ns.map PyData.int) (ms.map PyData.int) = decide (ns = ms)
  | [], [] => by simp [PyData.eqvAll]
  | [], _ :: _ => by simp [PyData.eqvAll]
  | _ :: _, [] => by simp [PyData.eqvAll]
  | n :: ns, m :: ms => by
    have ih := eqvAll_ints ns ms
    simp only [List.map_cons, PyData.eqvAll, PyData.eqv, ih]
    by_cases h : n = m
    · subst h
      simp
    · have : (n == m) = false := by simpa using h
      rw [this]
      simp [h]
theorem eqv_ints (ns ms : List Int) : PyData.eqv (iT ns) (iT ms) = decide (ns = ms) := by
  simp only [PyData.eqv]
  exact eqvAll_ints ns ms
theorem sh_pair {n : Nat} {a b : PyData} (ha : Sh n a) (hb : Sh n b) : Sh (n + 1) (.tuple [a, b]) := sh_tuple fun d hd => by
  rcases List.mem_cons.mp hd with e | e
  · rw [e]; exact ha
  · rw [List.mem_singleton.mp e]; exact hb
theorem eqv_same {d : PyData} (h : Sh 60 d) : (!PyData.eqv d d) = false := by rw [eqv_refl d h.1]; rfl

/-- the greatest common divisor -/
abbrev gcdI (a b : Int) : Int := ((Int.gcd a b : Nat) : Int)
theorem gcd_pos2 {p n : Int} (h : 1 ≤ n) : 0 < Int.gcd p n := Int.gcd_pos_of_ne_zero_right _ (by omega)
theorem gcd_turn {a b : Int} (hb : b ≠ 0) : Int.gcd b (a % b) = Int.gcd a b := by
  rw [Int.gcd_comm b, Int.emod_def, Int.sub_eq_add_neg, ← Int.mul_neg, Int.gcd_add_mul_left_left]
theorem abs45 {n : Int} (h1 : 0 ≤ n) (h2 : n ≤ 10 ^ 45) : n.natAbs < 2 ^ 150 := by
  have h5 : (10 : Int) ^ 45 < 2 ^ 150 := by decide
  have h8 : ((2 ^ 150 : Nat) : Int) = (2 : Int) ^ 150 := by simp
  omega
section
variable {P : Program} {w : World} {K : PySem.W.Frag} {mg : Str → Option Value} {base : Heap}
def sp_greatest_common_divisor : Sp := fun vs H Q _ => ∃ a b : Int, vs = [.int a, .int b] ∧ 0 ≤ a ∧ 0 ≤ b ∧ Q (.int (gcdI a b)) H
theorem ok_greatest_common_divisor (T : TX K mg) : FnOk P w K mg base CX0 1 T.f_greatest_common_divisor T.fd_greatest_common_divisor ["first", "second"] sp_greatest_common_divisor := by
  refine T.F_greatest_common_divisor.ok sc_greatest_common_divisor (fun vs H Q E h => ?_) (fun cdv A outer s H vs Q E hr h => ?_)
  · obtain ⟨a, b, rfl, _⟩ := h
    rfl
  · obtain ⟨a0, b0, rfl, h1, h2, k⟩ := h
    refine ⟨_, (pss_cons (ps_while PassesOwn.never (pt_cmpR op_ne (pv 1) pe_int (nomark _)) (pss_one (ps_par (i := 0) (j := 1) rfl sc_greatest_common_divisor.nd rfl rfl (by decide) rfl rfl (pa_cons (pv 1) (pa_cons (pe_op op_mod (pv 0) (pv 1)) pa_nil)) (by rfl)))) (pss_one (ps_ret (pe_callB call_abs (by rfl) T.z_abs (by decide +kernel) (pa_cons (pv 0) pa_nil))))), ?_⟩
    refine ⟨fun m σ H2 => ∃ a b : Int, σ = [some (.int a), some (.int b)] ∧ H2 = H ∧ 0 ≤ a ∧ 0 ≤ b ∧ Int.gcd a b = Int.gcd a0 b0 ∧ m = b.toNat, ⟨_, a0, b0, rfl, rfl, h1, h2, rfl, rfl⟩, ?_⟩
    rintro m σ _ ⟨a, b, rfl, rfl, ha, hb, hg, rfl⟩
    refine ⟨_, rfl, rfl, _, rfl, ?_⟩
    by_cases hz : b = 0
    · subst hz
      refine itf (by simp) ⟨_, rfl, a, rfl, ?_⟩
      rw [if_neg (by omega)]
      have e : (Int.gcd a 0 : Nat) = a.natAbs := by simp
      have e2 : gcdI a0 b0 = a := by
        show ((Int.gcd a0 b0 : Nat) : Int) = a
        rw [← hg, e]
        omega
      rw [e2] at k
      exact k
    · refine itt (by rw [dec_int]; simp [hz]) ⟨_, fun _ _ h => h, ?_⟩
      have q1 := Int.emod_lt_of_pos a (show 0 < b by omega)
      have q2 := Int.emod_nonneg a hz
      exact ⟨_, rfl, _, rfl, _, rfl, _, _, rfl, rfl, (by show 0 < b; omega), _, _, rfl, _, (by show (a % b).toNat < b.toNat; omega), _, _, rfl, rfl, hb, q2, by rw [gcd_turn hz, hg], rfl⟩
end

section
variable {P : Program} {w : World} {K : PySem.W.Frag} {mg : Str → Option Value} {base : Heap}
def sp_law_gcd : Sp := fun vs H Q _ => ∃ a b : Int, vs = [.int a, .int b] ∧ 0 ≤ a ∧ 0 ≤ b ∧ Q (.int (gcdI a b)) H
theorem ok_law_gcd (T : TX K mg) : FnOk P w K mg base CX0 1 T.f_law_gcd T.fd_law_gcd ["_law_a", "_law_b"] sp_law_gcd := by
  refine T.F_law_gcd.ok sc_law_gcd (fun vs H Q E h => ?_) (fun cdv A outer s H vs Q E hr h => ?_)
  · obtain ⟨a, b, rfl, _⟩ := h
    rfl
  · obtain ⟨a0, b0, rfl, h1, h2, k⟩ := h
    refine ⟨_, (pss_cons (ps_while PassesOwn.never (pt_cmpR op_ne (pv 1) pe_int (nomark _)) (pss_one (ps_par (i := 0) (j := 1) rfl sc_law_gcd.nd rfl rfl (by decide) rfl rfl (pa_cons (pv 1) (pa_cons (pe_op op_mod (pv 0) (pv 1)) pa_nil)) (by rfl)))) (pss_one (ps_ret (pe_callB call_abs (by rfl) T.z_abs (by decide +kernel) (pa_cons (pv 0) pa_nil))))), ?_⟩
    refine ⟨fun m σ H2 => ∃ a b : Int, σ = [some (.int a), some (.int b)] ∧ H2 = H ∧ 0 ≤ a ∧ 0 ≤ b ∧ Int.gcd a b = Int.gcd a0 b0 ∧ m = b.toNat, ⟨_, a0, b0, rfl, rfl, h1, h2, rfl, rfl⟩, ?_⟩
    rintro m σ _ ⟨a, b, rfl, rfl, ha, hb, hg, rfl⟩
    refine ⟨_, rfl, rfl, _, rfl, ?_⟩
    by_cases hz : b = 0
    · subst hz
      refine itf (by simp) ⟨_, rfl, a, rfl, ?_⟩
      rw [if_neg (by omega)]
      have e : (Int.gcd a 0 : Nat) = a.natAbs := by simp
      have e2 : gcdI a0 b0 = a := by
        show ((Int.gcd a0 b0 : Nat) : Int) = a
        rw [← hg, e]
        omega
      rw [e2] at k
      exact k
    · refine itt (by rw [dec_int]; simp [hz]) ⟨_, fun _ _ h => h, ?_⟩
      have q1 := Int.emod_lt_of_pos a (show 0 < b by omega)
      have q2 := Int.emod_nonneg a hz
      exact ⟨_, rfl, _, rfl, _, rfl, _, _, rfl, rfl, (by show 0 < b; omega), _, _, rfl, _, (by show (a % b).toNat < b.toNat; omega), _, _, rfl, rfl, hb, q2, by rw [gcd_turn hz, hg], rfl⟩
end

/-! ### zip's rows, nested comprehensions, lists of tuples of ints -/
theorem yrow2 {xs ys : List V} {i : Nat} {H H2 : Hp} {x : V} (h : CZ.YRow [xs, ys] i H x H2) : ∃ (Ta : Addr) (a b : V), x = .ref Ta ∧ H Ta = none ∧ H2 = upd H Ta (.tup [a, b]) ∧ xs[i]? = some a ∧ ys[i]? = some b := by
  obtain ⟨Ta, vs, rfl, hT, rfl, r⟩ := h
  cases r with
  | cons r1 r =>
    cases r with
    | cons r2 r =>
      cases r
      exact ⟨Ta, _, _, rfl, hT, rfl, r1, r2⟩
theorem yrow3 {xs ys zs : List V} {i : Nat} {H H2 : Hp} {x : V} (h : CZ.YRow [xs, ys, zs] i H x H2) : ∃ (Ta : Addr) (a b c : V), x = .ref Ta ∧ H Ta = none ∧ H2 = upd H Ta (.tup [a, b, c]) ∧ xs[i]? = some a ∧ ys[i]? = some b ∧ zs[i]? = some c := by
  obtain ⟨Ta, vs, rfl, hT, rfl, r⟩ := h
  cases r with
  | cons r1 r =>
    cases r with
    | cons r2 r =>
      cases r with
      | cons r3 r =>
        cases r
        exact ⟨Ta, _, _, _, rfl, hT, rfl, r1, r2, r3⟩
theorem yints2 {xs ys : List Int} {i : Nat} {H H2 : Hp} {x : V} (h : CZ.YRow [xs.map V.int, ys.map V.int] i H x H2) : ∃ (Ta : Addr) (a b : Int), x = .ref Ta ∧ H Ta = none ∧ H2 = upd H Ta (.tup [.int a, .int b]) ∧ xs[i]? = some a ∧ ys[i]? = some b := by
  obtain ⟨Ta, a, b, rfl, hT, rfl, r1, r2⟩ := yrow2 h
  obtain ⟨p, hp, rfl⟩ := map_get r1
  obtain ⟨q, hq, rfl⟩ := map_get r2
  exact ⟨Ta, p, q, rfl, hT, rfl, hp, hq⟩
theorem yints3 {xs ys zs : List Int} {i : Nat} {H H2 : Hp} {x : V} (h : CZ.YRow [xs.map V.int, ys.map V.int, zs.map V.int] i H x H2) : ∃ (Ta : Addr) (a b c : Int), x = .ref Ta ∧ H Ta = none ∧ H2 = upd H Ta (.tup [.int a, .int b, .int c]) ∧ xs[i]? = some a ∧ ys[i]? = some b ∧ zs[i]? = some c := by
  obtain ⟨Ta, a, b, c, rfl, hT, rfl, r1, r2, r3⟩ := yrow3 h
  obtain ⟨p, hp, rfl⟩ := map_get r1
  obtain ⟨q, hq, rfl⟩ := map_get r2
  obtain ⟨r, hr, rfl⟩ := map_get r3
  exact ⟨Ta, p, q, r, rfl, hT, rfl, hp, hq, hr⟩
theorem all2 {K : PySem.W.Frag} {H : Hp} {p q : Bool × Addr} {xs ys : List V} (hp : CZ.SqK K H p xs) (hq : CZ.SqK K H q ys) : ∀ r ∈ [p, q], ∃ zs, CZ.SqK K H r zs := fun r hr => by
  rcases List.mem_cons.mp hr with e | hr
  · rw [e]; exact ⟨_, hp⟩
  · rw [List.mem_singleton.mp hr]; exact ⟨_, hq⟩
theorem all3 {K : PySem.W.Frag} {H : Hp} {p q t : Bool × Addr} {xs ys us : List V} (hp : CZ.SqK K H p xs) (hq : CZ.SqK K H q ys) (ht : CZ.SqK K H t us) : ∀ r ∈ [p, q, t], ∃ zs, CZ.SqK K H r zs := fun r hr => by
  rcases List.mem_cons.mp hr with e | hr
  · rw [e]; exact ⟨_, hp⟩
  · exact all2 hq ht r hr
theorem lens2 {xs ys : List V} {n : Nat} (h1 : xs.length = n) (h2 : ys.length = n) : ∀ zs ∈ [xs, ys], zs.length = n := fun zs hz => by
  rcases List.mem_cons.mp hz with e | hz
  · rw [e]; exact h1
  · rw [List.mem_singleton.mp hz]; exact h2
theorem lens3 {xs ys us : List V} {n : Nat} (h1 : xs.length = n) (h2 : ys.length = n) (h3 : us.length = n) : ∀ zs ∈ [xs, ys, us], zs.length = n := fun zs hz => by
  rcases List.mem_cons.mp hz with e | hz
  · rw [e]; exact h1
  · exact lens2 h2 h3 zs hz
theorem sqT {K : PySem.W.Frag} {H : Hp} {a : Addr} {xs : List V} (h : H a = some (.tup xs)) : CZ.SqK K H (true, a) xs := SqT.of h
theorem sqL {K : PySem.W.Frag} {H : Hp} {a : Addr} {xs : List V} (h : H a = some (.lst xs)) : CZ.SqK K H (false, a) xs := SqL.of h
section
variable {J : It} {n : Nat} {G : Hp → Prop} {Y : Nat → Hp → V → Hp → Prop}
/-- a comprehension of two loops: the outer -/
theorem lc2_it (w : Walk J n G Y) {g g1 : TG} {tt tt1 : TT} {te : TE} {wi1 : TI} {vs vs1 : List Nat} {σ : L2.St} {H1 : Hp} {D : Addr} {Qd : Hp → Prop} (Pv : Nat → Hp → Prop) (h0 : Pv 0 (upd H1 D (.lst []))) (hG : ∀ i H, i ≤ n → Pv i H → G H)
    (hs : ∀ i x H H2, i < n → Pv i H → Y i H x H2 → g x (wipe σ vs) H2 fun σ2 H2 => wipe σ2 vs = wipe σ vs ∧ tt σ2 H2 fun b H3 =>
      if b = true then wi1 σ2 H3 fun J1 H4 => ∃ W1 : Nat → Nat → Hp → Prop, (∃ m, W1 0 m H4) ∧ ∀ j k H, W1 j k H →
        (J1.stop j H ∧ Pv (i + 1) H) ∨ (J1.go j H ∧ ∃ Nx1 : Hp → Prop, (∀ H2, Nx1 H2 → ∃ k2, k2 < k ∧ W1 (j + 1) k2 H2) ∧ ∀ x H2, J1.yld j H x H2 → g1 x (wipe σ2 vs1) H2 fun σ3 H5 => wipe σ3 vs1 = wipe σ2 vs1 ∧ tt1 σ3 H5 fun b H6 =>
          if b = true then te σ3 H6 fun y H7 => ∃ acc, H7 D = some (.lst acc) ∧ acc.length < sizeLine ∧ Nx1 (upd H7 D (.lst (acc ++ [y]))) else Nx1 H6)
      else Pv (i + 1) H3) (hd : ∀ H, Pv n H → Qd H) :
    ∃ W : Nat → Nat → Hp → Prop, (∃ m, W 0 m (upd H1 D (.lst []))) ∧ ∀ i m H, W i m H →
      (J.stop i H ∧ Qd H) ∨ (J.go i H ∧ ∃ Nx : Hp → Prop, (∀ H2, Nx H2 → ∃ m2, m2 < m ∧ W (i + 1) m2 H2) ∧ ∀ x H2, J.yld i H x H2 → g x (wipe σ vs) H2 fun σ2 H2 => wipe σ2 vs = wipe σ vs ∧ tt σ2 H2 fun b H3 =>
        if b = true then wi1 σ2 H3 fun J1 H4 => ∃ W1 : Nat → Nat → Hp → Prop, (∃ m, W1 0 m H4) ∧ ∀ j k H, W1 j k H →
          (J1.stop j H ∧ Nx H) ∨ (J1.go j H ∧ ∃ Nx1 : Hp → Prop, (∀ H2, Nx1 H2 → ∃ k2, k2 < k ∧ W1 (j + 1) k2 H2) ∧ ∀ x H2, J1.yld j H x H2 → g1 x (wipe σ2 vs1) H2 fun σ3 H5 => wipe σ3 vs1 = wipe σ2 vs1 ∧ tt1 σ3 H5 fun b H6 =>
            if b = true then te σ3 H6 fun y H7 => ∃ acc, H7 D = some (.lst acc) ∧ acc.length < sizeLine ∧ Nx1 (upd H7 D (.lst (acc ++ [y]))) else Nx1 H6)
        else Nx H3) := by
  refine ⟨fun i m H => m = n - i ∧ i ≤ n ∧ Pv i H, ⟨n, by simp, Nat.zero_le _, h0⟩, ?_⟩
  rintro i m H ⟨rfl, hi, p⟩
  have q := hG i H hi p
  by_cases hlt : i < n
  · refine .inr ⟨w.goes i H hlt q, Pv (i + 1), fun H2 p2 => ⟨n - (i + 1), by omega, rfl, hlt, p2⟩, fun x H2 y => hs i x H H2 hlt p (w.yields i H x H2 hlt q y)⟩
  · have e : i = n := by omega
    subst e
    exact .inl ⟨w.stops H q, hd H p⟩
/-- .. the inner -/
theorem in_it (w : Walk J n G Y) {g1 : TG} {tt1 : TT} {te : TE} {vs1 : List Nat} {σ2 : L2.St} {H4 : Hp} {D : Addr} {Nx : Hp → Prop} (Pw : Nat → Hp → Prop) (h0 : Pw 0 H4) (hG : ∀ i H, i ≤ n → Pw i H → G H)
    (hs : ∀ j x H H2, j < n → Pw j H → Y j H x H2 → g1 x (wipe σ2 vs1) H2 fun σ3 H5 => wipe σ3 vs1 = wipe σ2 vs1 ∧ tt1 σ3 H5 fun b H6 =>
      if b = true then te σ3 H6 fun y H7 => ∃ acc, H7 D = some (.lst acc) ∧ acc.length < sizeLine ∧ Pw (j + 1) (upd H7 D (.lst (acc ++ [y]))) else Pw (j + 1) H6) (hd : ∀ H, Pw n H → Nx H) :
    ∃ W1 : Nat → Nat → Hp → Prop, (∃ m, W1 0 m H4) ∧ ∀ j k H, W1 j k H →
      (J.stop j H ∧ Nx H) ∨ (J.go j H ∧ ∃ Nx1 : Hp → Prop, (∀ H2, Nx1 H2 → ∃ k2, k2 < k ∧ W1 (j + 1) k2 H2) ∧ ∀ x H2, J.yld j H x H2 → g1 x (wipe σ2 vs1) H2 fun σ3 H5 => wipe σ3 vs1 = wipe σ2 vs1 ∧ tt1 σ3 H5 fun b H6 =>
        if b = true then te σ3 H6 fun y H7 => ∃ acc, H7 D = some (.lst acc) ∧ acc.length < sizeLine ∧ Nx1 (upd H7 D (.lst (acc ++ [y]))) else Nx1 H6) := by
  refine ⟨fun i m H => m = n - i ∧ i ≤ n ∧ Pw i H, ⟨n, by simp, Nat.zero_le _, h0⟩, ?_⟩
  rintro i m H ⟨rfl, hi, p⟩
  have q := hG i H hi p
  by_cases hlt : i < n
  · refine .inr ⟨w.goes i H hlt q, Pw (i + 1), fun H2 p2 => ⟨n - (i + 1), by omega, rfl, hlt, p2⟩, fun x H2 y => hs i x H H2 hlt p (w.yields i H x H2 hlt q y)⟩
  · have e : i = n := by omega
    subst e
    exact .inl ⟨w.stops H q, hd H p⟩
end
/-- refs of tuples of ints -/
def RowsR (H : Hp) (xs : List V) (hss : List (List Int)) : Prop := Paired (fun x hs => ∃ r, x = V.ref r ∧ H r = some (.tup (hs.map V.int))) xs hss
theorem RowsR.mono {H H2 : Hp} (e : Ex H H2) : ∀ {xs : List V} {hss : List (List Int)}, RowsR H xs hss → RowsR H2 xs hss
  | _, _, .nil => .nil
  | _, _, .cons ⟨r, h1, h2⟩ t => .cons ⟨r, h1, e _ _ h2⟩ (RowsR.mono e t)
theorem RowsR.snoc {H : Hp} {r : Addr} {hs : List Int} (h : H r = some (.tup (hs.map V.int))) : ∀ {xs : List V} {hss : List (List Int)}, RowsR H xs hss → RowsR H (xs ++ [.ref r]) (hss ++ [hs])
  | _, _, .nil => .cons ⟨r, rfl, h⟩ .nil
  | _, _, .cons q t => .cons q (RowsR.snoc h t)
theorem RowsR.app {H : Hp} {ys : List V} {kss : List (List Int)} (h : RowsR H ys kss) : ∀ {xs : List V} {hss : List (List Int)}, RowsR H xs hss → RowsR H (xs ++ ys) (hss ++ kss)
  | _, _, .nil => h
  | _, _, .cons q t => .cons q (RowsR.app h t)
theorem RowsR.len {H : Hp} : ∀ {xs : List V} {hss : List (List Int)}, RowsR H xs hss → xs.length = hss.length
  | _, _, .nil => rfl
  | _, _, .cons _ t => by rw [List.length_cons, List.length_cons, RowsR.len t]
theorem RowsR.get {H : Hp} : ∀ {xs : List V} {hss : List (List Int)} {i : Nat} {x : V}, RowsR H xs hss → xs[i]? = some x → ∃ hs r, hss[i]? = some hs ∧ x = V.ref r ∧ H r = some (.tup (hs.map V.int))
  | _, _, _, _, .nil, h => by simp at h
  | _, _, 0, _, .cons ⟨r, e, q⟩ _, h => by
    simp only [List.length_cons, Nat.zero_lt_succ, List.getElem?_eq_getElem, List.getElem_cons_zero, Option.some.injEq] at h
    subst h
    exact ⟨_, r, rfl, e, q⟩
  | _, _, i + 1, _, .cons _ t, h => by
    rw [List.getElem?_cons_succ] at h ⊢
    exact RowsR.get t h
theorem RowsR.dp {K : PySem.W.Frag} {H : Hp} : ∀ {xs : List V} {hss : List (List Int)}, RowsR H xs hss → DpAll K H xs (hss.map iT)
  | _, _, .nil => .nil
  | _, _, .cons ⟨r, e, q⟩ t => by
    subst e
    exact .cons (dp_ints q) (RowsR.dp t)
/-- a list of tuples of ints -/
def RowsAt (H : Hp) (D : Addr) (hss : List (List Int)) : Prop := ∃ xs, H D = some (.lst xs) ∧ RowsR H xs hss
theorem RowsAt.mono {H H2 : Hp} {D : Addr} {hss : List (List Int)} (e : Ex H H2) (h : RowsAt H D hss) : RowsAt H2 D hss := by
  obtain ⟨xs, h1, h2⟩ := h
  exact ⟨xs, e _ _ h1, h2.mono e⟩
theorem RowsAt.dp {K : PySem.W.Frag} {H : Hp} {D : Addr} {hss : List (List Int)} (h : RowsAt H D hss) : Dp K H (.ref D) (.list (hss.map iT)) := by
  obtain ⟨xs, h1, h2⟩ := h
  exact .lst (SqL.of h1) h2.dp
theorem sh_rows {n : Nat} (hss : List (List Int)) : Sh (n + 2) (.list (hss.map iT)) := sh_list fun d hd => by
  obtain ⟨hs, _, rfl⟩ := List.mem_map.mp hd
  exact sh_ints hs
theorem eqvAll_rows : ∀ ns ms : List (List Int), PyData.eqvAll (ns.map iT) (ms.map iT) = decide (ns = ms)
  | [], [] => by simp [PyData.eqvAll]
  | [], _ :: _ => by simp [PyData.eqvAll]
  | _ :: _, [] => by simp [PyData.eqvAll]
  | n :: ns, m :: ms => by
    have ih := eqvAll_rows ns ms
    simp only [List.map_cons, PyData.eqvAll, eqv_ints, ih]
    by_cases h : n = m
    · subst h
      simp
    · simp [h]
theorem eqv_rows (ns ms : List (List Int)) : PyData.eqv (.list (ns.map iT)) (.list (ms.map iT)) = decide (ns = ms) := by
  simp only [PyData.eqv]
  exact eqvAll_rows ns ms
theorem RowsR.upd {H : Hp} {D : Addr} {acc : List V} {o : HO} (hD : H D = some (.lst acc)) : ∀ {xs : List V} {hss : List (List Int)}, RowsR H xs hss → RowsR (upd H D o) xs hss
  | _, _, .nil => .nil
  | _, _, .cons ⟨r, h1, h2⟩ t => .cons ⟨r, h1, by rw [upd_ne (ne_of h2 hD (by intro z; cases z))]; exact h2⟩ (RowsR.upd hD t)
theorem rows_push {H : Hp} {D u : Addr} {hss : List (List Int)} {ks : List Int} (h : RowsAt H D hss) (hu : H u = some (.tup (ks.map V.int))) : ∃ acc, H D = some (.lst acc) ∧ acc.length = hss.length ∧ RowsAt (upd H D (.lst (acc ++ [.ref u]))) D (hss ++ [ks]) := by
  obtain ⟨xs, h1, h2⟩ := h
  refine ⟨xs, h1, h2.len, _, upd_same, ?_⟩
  exact RowsR.snoc (by rw [upd_ne (ne_of hu h1 (by intro z; cases z))]; exact hu) (h2.upd h1)
theorem ex_upd {H H2 : Hp} {D : Addr} {o : HO} (e : Ex H H2) (hD : H D = none) : Ex H (upd H2 D o) := fun c u z => by
  rw [upd_ne (ne_of_none z hD)]
  exact e c u z
theorem ext {H H1 H2 : Hp} (a : Ex H H1) (b : Ex H1 H2) : Ex H H2 := fun c o z => b c o (a c o z)

/-! ### tuple * int, from 1 on -/
theorem u65 {k : Nat} {A : Around} (r : Room k A) : A.units + 65 < cLine := by have := r.un; omega
theorem tuple_mul1 (l : Addr) (items : Array Value) (n : Nat) (dd : Option Addr) (sl : Array (Option Value)) (x : Int) (u : Tok) (c0 : (decide (x < -(2 ^ 63)) || decide (x ≥ 2 ^ 63)) = false) (c1 : (items.isEmpty || x == 1) = true) :
    Meets (Builtin.«tuple.__mul__» ⟨[.ref l, .int x u], []⟩) (fun _ R s => s.heap.get? l = some { cls := .type "tuple", dict := dd, data := .seq items n, slots := sl } ∧ R (.ok (.ret (Value.ref l))) s) :=
  .of_wp fun prog w A R s h => by
    obtain ⟨hp, g, d, tk, os⟩ := s
    obtain ⟨hl, h⟩ := h
    have f1 := AutoSeq1.idx_int
    wp_walk using wpAny_loadPart' hl
    repeat (first
      | (refine wpAny_ite_false (decide_eq_false (by rw [c0]; exact Bool.false_ne_true)) ?_; wp_walk using wpAny_loadPart' hl)
      | (refine wpAny_ite_true (decide_eq_true c1) ?_; wp_walk using wpAny_loadPart' hl))
    exact ⟨_, rfl, h⟩
def rRepA (K : PySem.W.Frag) : R2 := fun x y H Q => ∃ l k xs, x = .ref l ∧ y = .int k ∧ SqT K H l xs ∧ xs ≠ [] ∧ 1 ≤ k ∧ k ≤ 1000 ∧ xs.length ≤ 1000 ∧ (k = 1 → Q (.ref l) H) ∧ ∀ p, H p = none → Q (.ref p) (upd H p (.tup (List.replicate k.toNat xs).flatten))
theorem op_repA {X : Cx} : OpR X (binaryOp .Mult) (rRepA X.K) := by
  intro pins s σ H x y v u Q I rx ry h
  obtain ⟨l, k, xs, ex, ey, hT, hne, h1, h2, hz, q1, q⟩ := h
  by_cases hk : k = 1
  · subst ex ey hk
    cases rx
    obtain ⟨t, rfl⟩ := ry
    obtain ⟨its, r, ⟨⟨cls, dd, data, sl⟩, ho, hc, n, hd⟩, hs⟩ := I.tuple hT
    simp only at hc hd
    subst hc hd
    refine wpAny_binaryOp_repeat_ref (T := "tuple") (U := "int") (by decide) ⟨_, ho, rfl⟩ (fun s2 => typeIs_int s2 1 t) noFill_tuple_mul PySem.F.fills_int_mul PySem.F.slot_int_rmul repeat_tuple PySem.F.slot_int_index.lookup
      (call_meets PySem.F.slot_int_rmul (typeIs_int s 1 t) PySem.F.entry_int_rmul (PySem.F.args_int_rmul_2 _ _) (int_rmul_tuple 1 t l its.toArray n dd sl)
        ⟨ho, rfl, ⟨_, ho, rfl⟩, call_meets PySem.F.slot_tuple_mul ⟨_, ho, rfl⟩ PySem.F.entry_tuple_mul (PySem.F.args_tuple_mul_2 _ _) (tuple_mul1 l its.toArray n dd sl 1 t (by decide) (by simp)) ⟨ho, ?_⟩⟩)
    exact ⟨.ref l, H, I, rfl, q1 rfl⟩
  · exact op_repT pins s σ H x y v u Q I rx ry ⟨l, k, xs, ex, ey, hT, hne, by omega, h2, hz, q⟩
/-- (x,) * k -/
theorem rep_one (x : V) (k : Nat) : (List.replicate k [x]).flatten = List.replicate k x := by
  induction k with
  | zero => rfl
  | succ k ih => rw [List.replicate_succ, List.flatten_cons, ih, List.replicate_succ]; rfl
theorem rep_ints {K : PySem.W.Frag} {H : Hp} {Q : VK} {u : Addr} {x k : Int} (hu : H u = some (.tup [.int x])) (h1 : 1 ≤ k) (h2 : k ≤ 1000) (h : ∀ q H2, Ex H H2 → H2 q = some (.tup ((List.replicate k.toNat x).map V.int)) → Q (.ref q) H2) : rRepA K (.ref u) (.int k) H Q := by
  refine ⟨u, k, [.int x], rfl, rfl, SqT.of hu, (fun z => nomatch z), h1, h2, (by show 1 ≤ 1000; decide), fun e => ?_, fun p hp => ?_⟩
  · subst e
    exact h u H exr hu
  · refine h p _ (exn hp) ?_
    rw [upd_same, rep_one, List.map_replicate]
theorem ne_same {a b : List Int} (h : a = b) : (!PyData.eqv (iT a) (iT b)) = false := by rw [h]; exact eqv_same (sh_ints b)
/-- a comprehension over a tuple of ints, by a value each -/
theorem row_in {hss : List (List Int)} {ps : List Int} (h : ps ∈ hss) : ((hss.map iT).any fun z => PyData.eqv z (iT ps)) = true := by
  rw [List.any_eq_true]
  exact ⟨iT ps, List.mem_map.mpr ⟨ps, h, rfl⟩, by rw [eqv_ints]; simp⟩
/-- a list of ints -/
abbrev iL (ns : List Int) : PyData := .list (ns.map PyData.int)
theorem sh_ilist {n : Nat} (ns : List Int) : Sh (n + 1) (iL ns) := sh_list fun d hd => by
  obtain ⟨i, _, rfl⟩ := List.mem_map.mp hd
  exact sh_int i
theorem dp_ilist {K : PySem.W.Frag} {H : Hp} {a : Addr} {ns : List Int} (h : H a = some (.lst (ns.map V.int))) : Dp K H (.ref a) (iL ns) := .lst (SqL.of h) (dpall_ints ns)
theorem eqv_ilist (ns ms : List Int) : PyData.eqv (iL ns) (iL ms) = decide (ns = ms) := by
  simp only [PyData.eqv]
  exact eqvAll_ints ns ms
theorem dec_bl {a b : Bool} (h : a = b) : (!decide (V.bl a = V.bl b)) = false := by rw [h]; simp
theorem emod_eq_iff {a b n : Int} : a % n = b % n ↔ n ∣ a - b := by
  rw [Int.emod_eq_emod_iff_emod_sub_eq_zero, Int.dvd_iff_emod_eq_zero]
/-- behind an if that changes names alone -/
theorem ifs_cutS {c : TT} {t u : TS} {D : Ends} {σ : L2.St} {H : Hp} (R : L2.St → Prop) (hR : ∀ σ2, R σ2 → D.nx σ2 H) (h : ∀ N : L2.St → Hp → Prop, (∀ σ2, R σ2 → N σ2 H) → tIfS c t u { D with nx := N } σ H) : tIfS c t u D σ H :=
  h D.nx hR

/-- a source of draws stands at s; n draws more may be taken -/
def Sr5 (H : Hp) (s : Addr) (n : Nat) : Prop := ∃ a b c : Int, H s = some (.lst [.int a, .int b, .int c]) ∧ 0 ≤ b ∧ b < 2147483647 ∧ 0 ≤ c ∧ c + n ≤ 1000000000000
theorem Sr5.mono {s : Addr} {H H2 : Hp} {n : Nat} (e : Ex H H2) (h : Sr5 H s n) : Sr5 H2 s n := by
  obtain ⟨a, b, c, h, q⟩ := h
  exact ⟨a, b, c, e _ _ h, q⟩
theorem Sr5.less {s : Addr} {H : Hp} {n m : Nat} (h : Sr5 H s n) (l : m ≤ n) : Sr5 H s m := by
  obtain ⟨a, b, c, h, q1, q2, q3, q4⟩ := h
  exact ⟨a, b, c, h, q1, q2, q3, by omega⟩
theorem Sr5.ne {s p : Addr} {H : Hp} {n : Nat} (h : Sr5 H s n) (hp : H p = none) : p ≠ s := by
  obtain ⟨a, b, c, h, _⟩ := h
  exact (ne_of_none h hp).symm
theorem Sr5.new {s p : Addr} {H : Hp} {o : HO} {n : Nat} (h : Sr5 H s n) (hp : H p = none) : Sr5 (upd H p o) s n := Sr5.mono (exn hp) h
theorem Sr5.tup {s q : Addr} {H H2 : Hp} {xs : List V} {n : Nat} (src : Sr5 H s n) (h : H q = some (.tup xs)) (xb : XB s H H2) : H2 q = some (.tup xs) := by
  obtain ⟨a, b, c, e, _⟩ := src
  exact xb _ _ (ne_of h e (by intro z; cases z)) h
section
variable {P : Program} {w : World} {K : PySem.W.Frag} {mg : Str → Option Value} {base : Heap}
def sp_law_cell_at (K : PySem.W.Frag) : Sp := fun vs H Q _ => ∃ (a : Addr) (ns : List Int) (k : Int), vs = [.ref a, .int k] ∧ SqL K H a (ns.map V.int) ∧ 0 ≤ k ∧ ∀ i : Int, Q (.int i) H
theorem ok_law_cell_at (T : TX K mg) : FnOk P w K mg base CX0 1 T.f_law_cell_at T.fd_law_cell_at ["_law_script", "_law_k"] (sp_law_cell_at K) := by
  refine T.F_law_cell_at.ok sc_law_cell_at (fun vs H Q E h => ?_) (fun cdv A outer s H vs Q E hr h => ?_)
  · obtain ⟨a, ns, k, rfl, _⟩ := h
    rfl
  · obtain ⟨a, ns, j, rfl, hl, h0, k⟩ := h
    refine ⟨_, (pss_one (ps_ret (pe_ifExp (pt_cmpR op_lt (pv 1) (pe_callB call_len_seq (by rfl) T.z_len (by decide +kernel) (pa_cons (pv 0) pa_nil)) (nomark _)) (pe_ix ix_list (pv 0) (pv 1) (fun _ _ => rfl)) pe_int))), ?_⟩
    refine ⟨_, rfl, _, rfl, a, _, rfl, .inl hl, _, _, rfl, rfl, _, rfl, ?_⟩
    refine ite2 (fun h => ?_) (fun _ => k 0)
    rw [List.length_map] at h
    have hj : j < ns.length := of_decide_eq_true h
    obtain ⟨v, _, gv⟩ := at_ex (xs := ns) h0 hj
    exact ⟨_, rfl, _, rfl, a, _, _, _, rfl, rfl, hl, gv, k v⟩
def sp_law_source : Sp := fun vs H Q _ => ∃ c : Int, vs = [.int c] ∧ ∀ H2 s, Ex H H2 → H s = none → Sr5 H2 s 1000000000 → Q (.ref s) H2
theorem ok_law_source (T : TX K mg) : FnOk P w K mg base CX0 1 T.f_law_source T.fd_law_source ["_law_cell"] sp_law_source := by
  refine T.F_law_source.ok sc_law_source (fun vs H Q E h => ?_) (fun cdv A outer s H vs Q E hr h => ?_)
  · obtain ⟨c, rfl, _⟩ := h
    rfl
  · obtain ⟨c, rfl, k⟩ := h
    refine ⟨_, (pss_one (ps_ret (pe_lst (pa_cons (pe_op op_mulI (pv 0) (pe_callTy call_int1 (by rfl) T.z_int (by decide +kernel) (pa_cons (pe_cmpR op_ge (pv 0) (pe_op op_pow pe_int pe_int) (nomark _)) pa_nil))) (pa_cons (pe_op op_mod (pv 0) pe_int) (pa_cons pe_int pa_nil)))))), ?_⟩
    refine ⟨_, rfl, _, rfl, _, _, rfl, rfl, ⟨by decide, by decide, by decide⟩, _, _, rfl, rfl, .inr ⟨_, rfl, _, _, rfl, rfl, mul_ok (.inr ?_), ?_⟩⟩
    · split <;> decide
    refine ⟨_, rfl, _, _, rfl, rfl, (by show (0 : Int) < _; decide), by show 3 ≤ sizeLine; decide, fun s hs => k _ s (exn hs) hs ⟨_, _, 0, upd_same, mod_lo (by decide), mod_hi (by decide), by decide, by decide⟩⟩
def sp_law_take : Sp := fun vs H Q _ => ∃ (s : Addr) (n : Int) (m : Nat), vs = [.ref s, .int n] ∧ Sr5 H s (m + 1) ∧ 0 < n ∧ n.natAbs < 2 ^ 8000 ∧ ∀ r H2, 0 ≤ r → r < n → XB s H H2 → Sr5 H2 s m → Q (.int r) H2
theorem ok_law_take (T : TX K mg) : FnOk P w K mg base CX0 1 T.f_law_take T.fd_law_take ["_law_source_here", "_law_bound"] sp_law_take := by
  refine T.F_law_take.ok sc_law_take (fun vs H Q E h => ?_) (fun cdv A outer s H vs Q E hr h => ?_)
  · obtain ⟨s, n, m, rfl, _⟩ := h
    rfl
  · obtain ⟨s, n, m, rfl, ⟨a, b, c, hs, b0, b1, c0, c1⟩, n0, n8, k⟩ := h
    refine ⟨_, (pss_cons (ps_if (pt_cmpR op_gt (pe_ix ix_list (pv 0) pe_int (fun _ _ => rfl)) pe_int (nomark _)) (pss_cons (ps_set (i := 2) sc_law_take.nd rfl (Or.inl rfl) (pe_op op_mod (pe_ix ix_list (pv 0) pe_int (fun _ _ => rfl)) (pv 1))) (pss_cons (ps_asg (pe_op op_fdivW (pe_ix ix_list (pv 0) pe_int (fun _ _ => rfl)) (pv 1)) (pg_sub (pv 0) pe_int set_list)) (pss_one (ps_ret (pv 2))))) pss_nil) (pss_cons (ps_asg (pe_op op_add (pe_ix ix_list (pv 0) pe_int (fun _ _ => rfl)) pe_int) (pg_sub (pv 0) pe_int set_list)) (pss_cons (ps_set (i := 3) sc_law_take.nd rfl (Or.inl rfl) (pe_ix ix_list (pe_lst (pa_cons pe_int (pa_cons pe_int (pa_cons pe_int (pa_cons pe_int pa_nil))))) (pe_op op_mod (pe_ix ix_list (pv 0) pe_int (fun _ _ => rfl)) pe_int) (fun _ _ => rfl))) (pss_cons (ps_set (i := 4) sc_law_take.nd rfl (Or.inl rfl) (pe_op op_mod (pe_op op_pow (pe_op op_add (pe_op op_add (pe_ix ix_list (pv 0) pe_int (fun _ _ => rfl)) (pe_op op_mulI pe_int (pe_ix ix_list (pv 0) pe_int (fun _ _ => rfl)))) pe_int) pe_int) (pv 3))) (pss_cons (ps_set (i := 4) sc_law_take.nd rfl (Or.inl rfl) (pe_op op_mod (pe_op op_mulI (pe_op op_add (pv 4) (pe_ix ix_list (pv 0) pe_int (fun _ _ => rfl))) (pe_op op_add (pe_op op_fdivW (pv 4) pe_int) pe_int)) (pv 3))) (pss_cons (ps_set (i := 4) sc_law_take.nd rfl (Or.inl rfl) (pe_op op_mod (pe_op op_mulI (pv 4) (pe_op op_add (pe_op op_add (pe_op op_fdivW (pv 4) pe_int) (pe_op op_mulI pe_int (pe_ix ix_list (pv 0) pe_int (fun _ _ => rfl)))) pe_int)) (pv 3))) (pss_one (ps_ret (pe_op op_mod (pe_op op_fdivW (pv 4) pe_int) (pv 1)))))))))), ?_⟩
    refine ⟨_, rfl, s, _, _, _, rfl, rfl, SqL.of hs, rfl, _, _, rfl, rfl, _, rfl, ?_⟩
    refine ite2 (fun _ => ?_) (fun _ => ?_)
    · refine ⟨_, rfl, s, _, _, _, rfl, rfl, SqL.of hs, rfl, _, rfl, _, _, rfl, rfl, n0, ?_⟩
      refine ⟨_, rfl, s, _, _, _, rfl, rfl, SqL.of hs, rfl, _, rfl, _, _, rfl, rfl, wide_div n0 n8 (by decide) (by decide), _, rfl, s, _, _, 0, rfl, rfl, hs, rfl, ?_⟩
      exact ⟨_, rfl, k _ _ (mod_lo n0) (mod_hi n0) XB.upd ⟨_, _, _, upd_same, b0, b1, c0, by omega⟩⟩
    · refine ⟨_, rfl, s, _, _, _, rfl, rfl, SqL.of hs, rfl, _, _, rfl, rfl, _, rfl, s, _, _, 2, rfl, rfl, hs, rfl, ?_⟩
      have xb0 : XB s H (upd H s (.lst [.int a, .int b, .int (c + 1)])) := XB.upd
      have hs1 : upd H s (.lst [.int a, .int b, .int (c + 1)]) s = some (.lst [.int a, .int b, .int (c + 1)]) := upd_same
      show tSeq _ _ _ _ (upd H s (.lst [.int a, .int b, .int (c + 1)]))
      generalize upd H s (.lst [.int a, .int b, .int (c + 1)]) = H1 at xb0 hs1
      -- the prime
      refine ⟨by show 4 ≤ sizeLine; decide, fun pl hpl => ?_⟩
      have np : s ≠ pl := ne_of_none hs1 hpl
      have hs2 := exn (o := .lst [.int 2147483629, .int 2147483587, .int 2147483579, .int 2147483563]) hpl _ _ hs1
      obtain ⟨pr, mp, gp⟩ := at_ex (xs := [2147483629, 2147483587, 2147483579, 2147483563]) (r := (c + 1) % 4) (mod_lo (by decide)) (mod_hi (by decide))
      have p1 : 2000000000 < pr ∧ pr < 2147483648 := by
        simp only [List.mem_cons, List.not_mem_nil, or_false] at mp
        omega
      refine ⟨_, rfl, s, _, _, _, rfl, rfl, SqL.of hs2, rfl, _, _, rfl, rfl, (by show (0 : Int) < 4; decide), pl, _, _, _, rfl, rfl, SqL.of upd_same, gp, ?_⟩
      have xb2 : XB s H (upd H1 pl (.lst [.int 2147483629, .int 2147483587, .int 2147483579, .int 2147483563])) := xb0.trans (XB.of (exn hpl))
      show tSeq _ _ _ _ (upd H1 pl (.lst [.int 2147483629, .int 2147483587, .int 2147483579, .int 2147483563]))
      generalize upd H1 pl (.lst [.int 2147483629, .int 2147483587, .int 2147483579, .int 2147483563]) = H2 at xb2 hs2
      have e64 : (2 : Nat) ^ 64 = 18446744073709551616 := by decide
      refine ⟨_, rfl, s, _, _, _, rfl, rfl, SqL.of hs2, rfl, _, rfl, s, _, _, _, rfl, rfl, SqL.of hs2, rfl, _, _, rfl, rfl, mul_ok (.inl (by decide)), _, _, rfl, rfl, _, _, rfl, rfl, _, _, rfl, rfl, ⟨by decide, by decide, by rw [e64]; omega⟩, _, rfl, _, _, rfl, rfl, (by show 0 < pr; omega), ?_⟩
      have q1 := mod_lo (i := (b + 6007 * (c + 1) + 29) ^ (3 : Int).toNat) (n := pr) (by omega)
      have q2 := mod_hi (i := (b + 6007 * (c + 1) + 29) ^ (3 : Int).toNat) (n := pr) (by omega)
      dsimp only
      generalize (b + 6007 * (c + 1) + 29) ^ (3 : Int).toNat % pr = x1 at q1 q2
      refine ⟨_, rfl, _, rfl, s, _, _, _, rfl, rfl, SqL.of hs2, rfl, _, _, rfl, rfl, _, rfl, _, _, rfl, rfl, ⟨by decide, by decide +kernel⟩, _, _, rfl, rfl, _, _, rfl, rfl, mul_ok (.inr (by omega)), _, rfl, _, _, rfl, rfl, (by show 0 < pr; omega), ?_⟩
      have q3 := mod_lo (i := (x1 + (c + 1)) * (x1 / 1021 + 50021)) (n := pr) (by omega)
      have q4 := mod_hi (i := (x1 + (c + 1)) * (x1 / 1021 + 50021)) (n := pr) (by omega)
      dsimp only
      generalize (x1 + (c + 1)) * (x1 / 1021 + 50021) % pr = x2 at q3 q4
      refine ⟨_, rfl, _, rfl, _, _, rfl, rfl, ⟨by decide, by decide +kernel⟩, _, rfl, s, _, _, _, rfl, rfl, SqL.of hs2, rfl, _, _, rfl, rfl, mul_ok (.inl (by decide)), _, _, rfl, rfl, _, _, rfl, rfl, _, _, rfl, rfl, mul_ok (.inl (by omega)), _, rfl, _, _, rfl, rfl, (by show 0 < pr; omega), ?_⟩
      refine ⟨_, rfl, _, _, rfl, rfl, ⟨by decide, by decide +kernel⟩, _, rfl, _, _, rfl, rfl, n0, ?_⟩
      exact k _ _ (mod_lo n0) (mod_hi n0) xb2 ⟨_, _, _, hs2, b0, b1, by omega, by omega⟩
def sp_law_large : Sp := fun vs H Q _ => ∃ (s : Addr) (n : Int) (m : Nat), vs = [.ref s, .int n] ∧ Sr5 H s (m + 4) ∧ 0 < n ∧ ∀ r H2, 0 ≤ r → r < n → XB s H H2 → Sr5 H2 s m → Q (.int r) H2
theorem ok_law_large (T : TX K mg) : FnOk P w K mg base CX0 2 T.f_law_large T.fd_law_large ["_law_source_here", "_law_bound"] sp_law_large := by
  refine T.F_law_large.ok sc_law_large (fun vs H Q E h => ?_) (fun cdv A outer s H vs Q E hr h => ?_)
  · obtain ⟨s, n, m, rfl, _⟩ := h
    rfl
  · obtain ⟨s, n, m, rfl, hs, n0, k⟩ := h
    refine ⟨_, (pss_cons (ps_set (i := 2) sc_law_large.nd rfl (Or.inl rfl) pe_int) (pss_cons (ps_for PassesOwn.never rfl (pi_range1 rfl T.z_range (pa_cons pe_int pa_nil)) (pg_name (i := 3) sc_law_large.nd rfl (Or.inl rfl)) (pss_one (ps_set (i := 2) sc_law_large.nd rfl (Or.inl rfl) (pe_op op_add (pe_op op_mulI (pv 2) (pe_op op_pow pe_int pe_int)) (pe_call (ok_law_take T) hr rfl T.m_law_take T.F_law_take.kp T.b_law_take .nil pass0 (pa_cons (pv 0) (pa_cons (pe_op op_pow pe_int pe_int) pa_nil))))))) (pss_one (ps_ret (pe_op op_mod (pv 2) (pv 1)))))), ?_⟩
    refine ⟨4, rfl, by decide, by decide, ?_⟩
    refine for_it walk_range (fun i σ H2 => ∃ (x : Int) (y : Option V), σ = [some (.ref s), some (.int n), some (.int x), y] ∧ XB s H H2 ∧ Sr5 H2 s (m + (4 - i))) ⟨0, none, rfl, XB.refl, hs⟩ (fun _ _ _ _ _ => True.intro) ?_ ?_
    · rintro i x σ _ H2 hi ⟨y, z, rfl, xb, sr⟩ ⟨rfl, rfl⟩
      have hi4 : i < 4 := hi
      have e9 : (10 : Int) ^ (9 : Int).toNat = 1000000000 := by decide
      refine ⟨_, rfl, _, _, rfl, rfl, ⟨by decide, by decide, by decide⟩, _, _, rfl, rfl, mul_ok (.inr (by rw [e9]; omega)), _, rfl, _, _, rfl, rfl, ⟨by decide, by decide, by decide⟩, s, _, m + (4 - (i + 1)), rfl, sr.less (by omega), by decide, by decide +kernel, fun r H3 r0 r1 xb3 sr3 => ?_⟩
      exact ⟨_, _, rfl, rfl, _, _, rfl, xb.trans xb3, sr3⟩
    · rintro σ H2 ⟨x, y, rfl, xb, sr⟩
      exact ⟨_, rfl, _, rfl, _, _, rfl, rfl, n0, k _ _ (mod_lo n0) (mod_hi n0) xb sr⟩
end

/-! ### inverses -/
structure InvI (u m a x b y : Int) : Prop where
  a1 : 0 < a
  b0 : 0 ≤ b
  am : a ≤ m
  bm : b ≤ m
  ax : m ∣ a - x * u
  bx : m ∣ b - y * u
  g : Int.gcd a b = Int.gcd u m
  sz : (x.natAbs : Int) * b + (y.natAbs : Int) * a ≤ m
theorem InvI.init {u m : Int} (h : 1 ≤ m) : InvI u m m 0 (u % m) 1 where
  a1 := by omega
  b0 := Int.emod_nonneg _ (by omega)
  am := Int.le_refl _
  bm := Int.le_of_lt (Int.emod_lt_of_pos _ (by omega))
  ax := by rw [Int.zero_mul, Int.sub_zero]; exact Int.dvd_refl _
  bx := by
    have e : u % m - 1 * u = m * (-(u / m)) := by
      have := Int.emod_add_mul_ediv u m
      grind
    rw [e]
    exact Int.dvd_mul_right _ _
  g := gcd_turn (by omega)
  sz := by
    have e1 : ((0 : Int).natAbs : Int) = 0 := rfl
    have e2 : ((1 : Int).natAbs : Int) = 1 := rfl
    rw [e1, e2]
    omega
theorem InvI.step {u m a x b y : Int} (h : InvI u m a x b y) (hb : 0 < b) : InvI u m b y (a - a / b * b) (x - a / b * y) ∧ a - a / b * b < b := by
  have e : a - a / b * b = a % b := by
    have := Int.emod_add_mul_ediv a b
    grind
  have q0 : 0 ≤ a / b := Int.ediv_nonneg (by have := h.a1; omega) (by omega)
  have l1 := Int.emod_lt_of_pos a hb
  have l0 := Int.emod_nonneg a (show b ≠ 0 by omega)
  refine ⟨⟨hb, by omega, h.bm, by have := h.bm; omega, h.bx, ?_, ?_, ?_⟩, by omega⟩
  · have e2 : a - a / b * b - (x - a / b * y) * u = (a - x * u) - a / b * (b - y * u) := by grind
    rw [e2]
    exact Int.dvd_sub h.ax (Int.dvd_trans h.bx (Int.dvd_mul_left _ _))
  · rw [e, gcd_turn (by omega)]
    exact h.g
  · have h1 := h.sz
    have z1 : ((x - a / b * y).natAbs : Int) ≤ x.natAbs + a / b * y.natAbs := by
      have t1 : (x - a / b * y).natAbs ≤ x.natAbs + (a / b * y).natAbs := by omega
      have t2 : ((a / b * y).natAbs : Int) = a / b * y.natAbs := by
        rw [Int.natAbs_mul, Int.natCast_mul, Int.natAbs_of_nonneg q0]
      omega
    have z2 := Int.mul_le_mul_of_nonneg_right z1 (show 0 ≤ b by omega)
    have z3 : (y.natAbs : Int) * (a - a / b * b) + ((x.natAbs : Int) + a / b * y.natAbs) * b = (y.natAbs : Int) * a + (x.natAbs : Int) * b := by grind
    omega
theorem InvI.ybound {u m a x b y : Int} (h : InvI u m a x b y) : (y.natAbs : Int) ≤ m := by
  have h1 := h.sz
  have h2 : 0 ≤ (x.natAbs : Int) * b := Int.mul_nonneg (by omega) h.b0
  have h3 : (y.natAbs : Int) * 1 ≤ (y.natAbs : Int) * a := Int.mul_le_mul_of_nonneg_left (by have := h.a1; omega) (by omega)
  omega
theorem InvI.done {u m a x y : Int} (h : InvI u m a x 0 y) (co : Int.gcd u m = 1) : u * (x % m) % m = 1 % m := by
  have a1 : a = 1 := by
    have := h.g
    rw [co] at this
    have h2 : a.natAbs = 1 := by rw [← this]; simp
    have := h.a1
    omega
  have hx := h.ax
  rw [a1] at hx
  rw [Int.mul_emod, Int.emod_emod, ← Int.mul_emod, Int.mul_comm]
  exact (emod_eq_iff.mpr hx).symm
theorem InvI.ex {u m a x y : Int} (h : InvI u m a x 0 y) : (1 : Int) ≤ m := by
  have := h.a1
  have := h.am
  omega
/-- inverses are unique -/
theorem inv_unique {u m r t : Int} (r0 : 0 ≤ r) (r1 : r < m) (t0 : 0 ≤ t) (t1 : t < m) (hr : u * r % m = 1 % m) (ht : u * t % m = 1 % m) : r = t := by
  have h1 : m ∣ u * r - 1 := emod_eq_iff.mp hr
  have h2 : m ∣ u * t - 1 := emod_eq_iff.mp ht
  have h3 : m ∣ r - t := by
    have e : r - t = t * (u * r - 1) - r * (u * t - 1) := by grind
    rw [e]
    exact Int.dvd_sub (Int.dvd_trans h1 (Int.dvd_mul_left _ _)) (Int.dvd_trans h2 (Int.dvd_mul_left _ _))
  have h4 := emod_eq_iff.mpr h3
  rw [Int.emod_eq_of_lt r0 r1, Int.emod_eq_of_lt t0 t1] at h4
  exact h4

section
variable {P : Program} {w : World} {K : PySem.W.Frag} {mg : Str → Option Value} {base : Heap}
def sp_inverse : Sp := fun vs H Q _ => ∃ (u m : Int), vs = [.int u, .int m] ∧ 1 ≤ m ∧ m ≤ 10 ^ 45 ∧ Int.gcd u m = 1 ∧ ∀ r H2, 0 ≤ r → r < m → u * r % m = 1 % m → Ex H H2 → Q (.int r) H2
theorem ok_inverse (T : TX K mg) : FnOk P w K mg base CX0 1 T.f_inverse T.fd_inverse ["number", "modulus"] sp_inverse := by
  refine T.F_inverse.ok sc_inverse (fun vs H Q E h => ?_) (fun cdv A outer s H vs Q E hr h => ?_)
  · obtain ⟨u, m, rfl, _⟩ := h
    rfl
  · obtain ⟨u, m, rfl, m1, m2, co, k⟩ := h
    refine ⟨_, (pss_cons (ps_par (i := 2) (j := 3) rfl sc_inverse.nd rfl rfl (by decide) rfl rfl (pa_cons (pe_tup (pa_cons (pv 1) (pa_cons pe_int pa_nil))) (pa_cons (pe_tup (pa_cons (pe_op op_mod (pv 0) (pv 1)) (pa_cons pe_int pa_nil))) pa_nil)) (by rfl)) (pss_cons (ps_while PassesOwn.never (pt_cmpR op_gt (pe_ix ix_tup (pv 3) pe_int (fun _ _ => rfl)) pe_int (nomark _)) (pss_cons (ps_set (i := 4) sc_inverse.nd rfl (Or.inl rfl) (pe_op op_fdivW (pe_ix ix_tup (pv 2) pe_int (fun _ _ => rfl)) (pe_ix ix_tup (pv 3) pe_int (fun _ _ => rfl)))) (pss_one (ps_par (i := 2) (j := 3) rfl sc_inverse.nd rfl rfl (by decide) rfl rfl (pa_cons (pv 3) (pa_cons (pe_tup (pa_cons (pe_op op_sub (pe_ix ix_tup (pv 2) pe_int (fun _ _ => rfl)) (pe_op op_mulI (pv 4) (pe_ix ix_tup (pv 3) pe_int (fun _ _ => rfl)))) (pa_cons (pe_op op_sub (pe_ix ix_tup (pv 2) pe_int (fun _ _ => rfl)) (pe_op op_mulI (pv 4) (pe_ix ix_tup (pv 3) pe_int (fun _ _ => rfl)))) pa_nil))) pa_nil)) (by rfl))))) (pss_one (ps_ret (pe_op op_mod (pe_ix ix_tup (pv 2) pe_int (fun _ _ => rfl)) (pv 1)))))), ?_⟩
    refine ⟨_, rfl, by show 2 ≤ sizeLine; decide, fun l0 hl0 => ⟨_, rfl, _, rfl, _, _, rfl, rfl, (by show 0 < m; omega), by show 2 ≤ sizeLine; decide, fun h0 hh0 => ⟨_, _, rfl, ?_⟩⟩⟩
    refine ⟨fun j σ H2 => ∃ (lo hi : Addr) (y4 : Option V) (a x b y : Int), σ = [some (.int u), some (.int m), some (.ref lo), some (.ref hi), y4] ∧ Ex H H2 ∧ H2 lo = some (.tup [.int a, .int x]) ∧ H2 hi = some (.tup [.int b, .int y]) ∧ InvI u m a x b y ∧ j = b.toNat, ⟨_, l0, h0, none, m, 0, u % m, 1, rfl, ext (exn hl0) (exn hh0), exn hh0 _ _ upd_same, upd_same, .init m1, rfl⟩, ?_⟩
    rintro j σ H2 ⟨lo, hi, y4, a, x, b, y, rfl, e2, hlo, hhi, inv, rfl⟩
    refine ⟨_, rfl, hi, _, _, _, rfl, rfl, SqT.of hhi, rfl, _, _, rfl, rfl, _, rfl, ?_⟩
    refine ite2 (fun hb => ?_) (fun hb => ?_)
    · have hb : 0 < b := of_decide_eq_true hb
      obtain ⟨inv2, lt⟩ := inv.step hb
      have q0 : 0 ≤ a / b := Int.ediv_nonneg (by have := inv.a1; omega) (by omega)
      have qa : a / b ≤ a := Int.ediv_le_self _ (by have := inv.a1; omega)
      have bb : b.natAbs < 2 ^ 150 := abs45 (by omega) (Int.le_trans inv.bm m2)
      have qq : (a / b).natAbs < 2 ^ 150 := abs45 q0 (Int.le_trans qa (Int.le_trans inv.am m2))
      have yy : y.natAbs < 2 ^ 150 := by
        have := abs45 (n := (y.natAbs : Int)) (by omega) (Int.le_trans inv.ybound m2)
        rw [Int.natAbs_natCast] at this
        exact this
      refine ⟨_, fun _ _ h => h, ?_⟩
      refine ⟨_, rfl, lo, _, _, _, rfl, rfl, SqT.of hlo, rfl, _, rfl, hi, _, _, _, rfl, rfl, SqT.of hhi, rfl, _, _, rfl, rfl, wide_div hb bb (by decide) (by decide), ?_⟩
      refine ⟨_, rfl, _, rfl, lo, _, _, _, rfl, rfl, SqT.of hlo, rfl, _, rfl, _, rfl, hi, _, _, _, rfl, rfl, SqT.of hhi, rfl, _, _, rfl, rfl, (wide_mul qq bb (by decide) (by decide) (by decide)).ok, _, _, rfl, rfl, ?_⟩
      refine ⟨_, rfl, lo, _, _, _, rfl, rfl, SqT.of hlo, rfl, _, rfl, _, rfl, hi, _, _, _, rfl, rfl, SqT.of hhi, rfl, _, _, rfl, rfl, (wide_mul qq yy (by decide) (by decide) (by decide)).ok, _, _, rfl, rfl, by show 2 ≤ sizeLine; decide, fun nt hnt => ?_⟩
      have e3 := exn (o := .tup [.int (a - a / b * b), .int (x - a / b * y)]) hnt
      refine ⟨_, _, rfl, _, (by show (a - a / b * b).toNat < b.toNat; have := inv2.b0; omega), hi, nt, _, b, y, a - a / b * b, x - a / b * y, rfl, ext e2 e3, e3 _ _ hhi, upd_same, inv2, rfl⟩
    · have hb : ¬ 0 < b := fun z => hb (decide_eq_true z)
      obtain rfl : b = 0 := by have := inv.b0; omega
      refine ⟨_, rfl, lo, _, _, _, rfl, rfl, SqT.of hlo, rfl, _, rfl, _, _, rfl, rfl, (by show 0 < m; omega), ?_⟩
      exact k _ _ (mod_lo (by omega)) (mod_hi (by omega)) (inv.done co) e2
end

section
variable {P : Program} {w : World} {K : PySem.W.Frag} {mg : Str → Option Value} {base : Heap}
def sp_law_inverse : Sp := fun vs H Q _ => ∃ (u m : Int), vs = [.int u, .int m] ∧ 1 ≤ m ∧ m ≤ 10 ^ 45 ∧ Int.gcd u m = 1 ∧ ∀ r H2, 0 ≤ r → r < m → u * r % m = 1 % m → Ex H H2 → Q (.int r) H2
theorem ok_law_inverse (T : TX K mg) : FnOk P w K mg base CX0 1 T.f_law_inverse T.fd_law_inverse ["_law_number", "_law_modulus"] sp_law_inverse := by
  refine T.F_law_inverse.ok sc_law_inverse (fun vs H Q E h => ?_) (fun cdv A outer s H vs Q E hr h => ?_)
  · obtain ⟨u, m, rfl, _⟩ := h
    rfl
  · obtain ⟨u, m, rfl, m1, m2, co, k⟩ := h
    refine ⟨_, (pss_cons (ps_par (i := 2) (j := 3) rfl sc_law_inverse.nd rfl rfl (by decide) rfl rfl (pa_cons (pe_tup (pa_cons (pv 1) (pa_cons pe_int pa_nil))) (pa_cons (pe_tup (pa_cons (pe_op op_mod (pv 0) (pv 1)) (pa_cons pe_int pa_nil))) pa_nil)) (by rfl)) (pss_cons (ps_while PassesOwn.never (pt_cmpR op_gt (pe_ix ix_tup (pv 3) pe_int (fun _ _ => rfl)) pe_int (nomark _)) (pss_cons (ps_set (i := 4) sc_law_inverse.nd rfl (Or.inl rfl) (pe_op op_fdivW (pe_ix ix_tup (pv 2) pe_int (fun _ _ => rfl)) (pe_ix ix_tup (pv 3) pe_int (fun _ _ => rfl)))) (pss_one (ps_par (i := 2) (j := 3) rfl sc_law_inverse.nd rfl rfl (by decide) rfl rfl (pa_cons (pv 3) (pa_cons (pe_tup (pa_cons (pe_op op_sub (pe_ix ix_tup (pv 2) pe_int (fun _ _ => rfl)) (pe_op op_mulI (pv 4) (pe_ix ix_tup (pv 3) pe_int (fun _ _ => rfl)))) (pa_cons (pe_op op_sub (pe_ix ix_tup (pv 2) pe_int (fun _ _ => rfl)) (pe_op op_mulI (pv 4) (pe_ix ix_tup (pv 3) pe_int (fun _ _ => rfl)))) pa_nil))) pa_nil)) (by rfl))))) (pss_one (ps_ret (pe_op op_mod (pe_ix ix_tup (pv 2) pe_int (fun _ _ => rfl)) (pv 1)))))), ?_⟩
    refine ⟨_, rfl, by show 2 ≤ sizeLine; decide, fun l0 hl0 => ⟨_, rfl, _, rfl, _, _, rfl, rfl, (by show 0 < m; omega), by show 2 ≤ sizeLine; decide, fun h0 hh0 => ⟨_, _, rfl, ?_⟩⟩⟩
    refine ⟨fun j σ H2 => ∃ (lo hi : Addr) (y4 : Option V) (a x b y : Int), σ = [some (.int u), some (.int m), some (.ref lo), some (.ref hi), y4] ∧ Ex H H2 ∧ H2 lo = some (.tup [.int a, .int x]) ∧ H2 hi = some (.tup [.int b, .int y]) ∧ InvI u m a x b y ∧ j = b.toNat, ⟨_, l0, h0, none, m, 0, u % m, 1, rfl, ext (exn hl0) (exn hh0), exn hh0 _ _ upd_same, upd_same, .init m1, rfl⟩, ?_⟩
    rintro j σ H2 ⟨lo, hi, y4, a, x, b, y, rfl, e2, hlo, hhi, inv, rfl⟩
    refine ⟨_, rfl, hi, _, _, _, rfl, rfl, SqT.of hhi, rfl, _, _, rfl, rfl, _, rfl, ?_⟩
    refine ite2 (fun hb => ?_) (fun hb => ?_)
    · have hb : 0 < b := of_decide_eq_true hb
      obtain ⟨inv2, lt⟩ := inv.step hb
      have q0 : 0 ≤ a / b := Int.ediv_nonneg (by have := inv.a1; omega) (by omega)
      have qa : a / b ≤ a := Int.ediv_le_self _ (by have := inv.a1; omega)
      have bb : b.natAbs < 2 ^ 150 := abs45 (by omega) (Int.le_trans inv.bm m2)
      have qq : (a / b).natAbs < 2 ^ 150 := abs45 q0 (Int.le_trans qa (Int.le_trans inv.am m2))
      have yy : y.natAbs < 2 ^ 150 := by
        have := abs45 (n := (y.natAbs : Int)) (by omega) (Int.le_trans inv.ybound m2)
        rw [Int.natAbs_natCast] at this
        exact this
      refine ⟨_, fun _ _ h => h, ?_⟩
      refine ⟨_, rfl, lo, _, _, _, rfl, rfl, SqT.of hlo, rfl, _, rfl, hi, _, _, _, rfl, rfl, SqT.of hhi, rfl, _, _, rfl, rfl, wide_div hb bb (by decide) (by decide), ?_⟩
      refine ⟨_, rfl, _, rfl, lo, _, _, _, rfl, rfl, SqT.of hlo, rfl, _, rfl, _, rfl, hi, _, _, _, rfl, rfl, SqT.of hhi, rfl, _, _, rfl, rfl, (wide_mul qq bb (by decide) (by decide) (by decide)).ok, _, _, rfl, rfl, ?_⟩
      refine ⟨_, rfl, lo, _, _, _, rfl, rfl, SqT.of hlo, rfl, _, rfl, _, rfl, hi, _, _, _, rfl, rfl, SqT.of hhi, rfl, _, _, rfl, rfl, (wide_mul qq yy (by decide) (by decide) (by decide)).ok, _, _, rfl, rfl, by show 2 ≤ sizeLine; decide, fun nt hnt => ?_⟩
      have e3 := exn (o := .tup [.int (a - a / b * b), .int (x - a / b * y)]) hnt
      refine ⟨_, _, rfl, _, (by show (a - a / b * b).toNat < b.toNat; have := inv2.b0; omega), hi, nt, _, b, y, a - a / b * b, x - a / b * y, rfl, ext e2 e3, e3 _ _ hhi, upd_same, inv2, rfl⟩
    · have hb : ¬ 0 < b := fun z => hb (decide_eq_true z)
      obtain rfl : b = 0 := by have := inv.b0; omega
      refine ⟨_, rfl, lo, _, _, _, rfl, rfl, SqT.of hlo, rfl, _, rfl, _, _, rfl, rfl, (by show 0 < m; omega), ?_⟩
      exact k _ _ (mod_lo (by omega)) (mod_hi (by omega)) (inv.done co) e2
end

/-! ### sums of two targets on a ring -/
theorem odd_split : ∀ (f : Nat) (n : Int), 1 ≤ n → n.natAbs ≤ f → ∃ (k : Nat) (a : Int), n = 2 ^ k * (2 * a + 1)
  | 0, n, h, l => by omega
  | f + 1, n, h, l => by
    by_cases o : n % 2 = 1
    · exact ⟨0, n / 2, by rw [Int.pow_zero]; omega⟩
    · obtain ⟨k, a, e⟩ := odd_split f (n / 2) (by omega) (by omega)
      refine ⟨k + 1, a, ?_⟩
      have e2 : n = 2 * (n / 2) := by omega
      rw [e2, e, Int.pow_succ]
      grind
theorem odd_le {k j : Nat} {o p : Int} (h : (2 : Int) ^ k * o = 2 ^ j * p) (ho : o % 2 = 1) (hkj : k ≤ j) : o = p ∧ k = j := by
  obtain ⟨i, rfl⟩ := Nat.exists_eq_add_of_le hkj
  rw [Int.pow_add, Int.mul_assoc] at h
  have h2 : o = 2 ^ i * p := Int.eq_of_mul_eq_mul_left (by have := pow2_pos k; omega) h
  cases i with
  | zero => exact ⟨by rw [h2, Int.pow_zero, Int.one_mul], rfl⟩
  | succ i =>
    rw [Int.pow_succ] at h2
    have : o = 2 * (2 ^ i * p) := by rw [h2]; grind
    omega
theorem odd_unique {k j : Nat} {o p : Int} (h : (2 : Int) ^ k * o = 2 ^ j * p) (ho : o % 2 = 1) (hp : p % 2 = 1) : o = p ∧ k = j := by
  rcases Nat.le_total k j with l | l
  · exact odd_le h ho l
  · obtain ⟨a, b⟩ := odd_le h.symm hp l
    exact ⟨a.symm, b.symm⟩
/-- c calls reach the place at distance d from the first of two targets, and fewer do not -/
structure TwoOk (n g d f : Int) (c : Nat) : Prop where
  dv : d * 2 ^ c % gcdI g n = 0
  le : d * 2 ^ c / gcdI g n * f % (n / gcdI g n) ≤ 2 ^ c
  least : c = 0 ∨ ((2 : Int) ^ (c - 1) < n ∧ (¬ d * 2 ^ (c - 1) % gcdI g n = 0 ∨ (2 : Int) ^ (c - 1) < d * 2 ^ (c - 1) / gcdI g n * f % (n / gcdI g n)))
theorem coprime_parts {g n : Int} (h : 1 ≤ n) : Int.gcd (g / gcdI g n) (n / gcdI g n) = 1 := Int.gcd_ediv_gcd_ediv_gcd (gcd_pos2 h)
theorem two_next {n g d f : Int} {c : Nat} (h0 : 0 < n / gcdI g n) (s0 : 0 < gcdI g n) (f0 : d * 2 ^ c % gcdI g n = 0) (f1 : d * 2 ^ c / gcdI g n * f % (n / gcdI g n) ≤ 2 ^ c) : d * 2 ^ (c + 1) % gcdI g n = 0 ∧ d * 2 ^ (c + 1) / gcdI g n * f % (n / gcdI g n) ≤ 2 ^ (c + 1) := by
  generalize gcdI g n = sh at *
  generalize n / sh = per at *
  obtain ⟨x, hx⟩ := Int.dvd_of_emod_eq_zero f0
  have e : d * 2 ^ (c + 1) = sh * (2 * x) := by
    rw [Int.pow_succ, ← Int.mul_assoc, hx]
    grind
  have e1 : d * 2 ^ (c + 1) / sh = 2 * x := by rw [e, Int.mul_ediv_cancel_left _ (by omega)]
  have e2 : d * 2 ^ c / sh = x := by rw [hx, Int.mul_ediv_cancel_left _ (by omega)]
  rw [e2] at f1
  refine ⟨by rw [e]; exact Int.mul_emod_right _ _, ?_⟩
  rw [e1]
  have h1 := mod_lo (i := x * f) h0
  have e3 : 2 * x * f % per = 2 * (x * f % per) % per := by
    rw [Int.mul_assoc, Int.mul_emod, Int.mul_emod 2 (x * f % per), Int.emod_emod]
  rw [e3, Int.pow_succ]
  have h2 : 2 * (x * f % per) % per ≤ 2 * (x * f % per) := by
    rcases Int.lt_or_le (2 * (x * f % per)) per with l | l
    · rw [Int.emod_eq_of_lt (by omega) l]
      exact Int.le_refl _
    · have := mod_hi (i := 2 * (x * f % per)) h0
      omega
  omega
theorem two_more {n g d f : Int} (h0 : 0 < n / gcdI g n) (s0 : 0 < gcdI g n) {c : Nat} (f0 : d * 2 ^ c % gcdI g n = 0) (f1 : d * 2 ^ c / gcdI g n * f % (n / gcdI g n) ≤ 2 ^ c) : ∀ i : Nat, d * 2 ^ (c + i) % gcdI g n = 0 ∧ d * 2 ^ (c + i) / gcdI g n * f % (n / gcdI g n) ≤ 2 ^ (c + i)
  | 0 => ⟨f0, f1⟩
  | i + 1 => by
    obtain ⟨a, b⟩ := two_more h0 s0 f0 f1 i
    exact two_next h0 s0 a b
theorem TwoOk.notLess {n g d f : Int} {c e : Nat} (h0 : 0 < n / gcdI g n) (s0 : 0 < gcdI g n) (h : TwoOk n g d f c) (h2 : TwoOk n g d f e) : ¬ c < e := fun l => by
  obtain ⟨i, rfl⟩ : ∃ i, e = c + i + 1 := ⟨e - c - 1, by omega⟩
  obtain ⟨a, b⟩ := two_more h0 s0 h.dv h.le i
  rcases h2.least with z | ⟨_, z | z⟩
  · omega
  · exact z a
  · have e1 : c + i + 1 - 1 = c + i := rfl
    rw [e1] at z
    omega
theorem TwoOk.same {n g d f : Int} {c e : Nat} (h0 : 0 < n / gcdI g n) (s0 : 0 < gcdI g n) (h : TwoOk n g d f c) (h2 : TwoOk n g d f e) : c = e := by
  have := TwoOk.notLess h0 s0 h h2
  have := TwoOk.notLess h0 s0 h2 h
  omega
/-- what the ring leaves of X, in shares -/
theorem share_mod {n sh X : Int} (s0 : 0 < sh) (hn : sh ∣ n) (hX : X % sh = 0) : X % n % sh = 0 ∧ ∀ f, X % n / sh * f % (n / sh) = X / sh * f % (n / sh) := by
  obtain ⟨x, rfl⟩ := Int.dvd_of_emod_eq_zero hX
  obtain ⟨per, rfl⟩ := hn
  have e : sh * x % (sh * per) = sh * (x % per) := Int.mul_emod_mul_of_pos _ _ s0
  rw [e]
  refine ⟨Int.mul_emod_right _ _, fun f => ?_⟩
  rw [Int.mul_ediv_cancel_left _ (by omega), Int.mul_ediv_cancel_left _ (by omega), Int.mul_ediv_cancel_left _ (by omega), Int.mul_emod, Int.emod_emod, ← Int.mul_emod]
theorem share_not {n sh X : Int} (hn : sh ∣ n) (hX : ¬ X % sh = 0) : ¬ X % n % sh = 0 := by
  rw [Int.emod_emod_of_dvd _ hn]
  exact hX
/-- no call: at one of the two -/
theorem two_zero {n a b p f : Int} (a0 : 0 ≤ a) (a1 : a < n) (b0 : 0 ≤ b) (b1 : b < n) (p0 : 0 ≤ p) (p1 : p < n) (s0 : 0 < gcdI ((b - a) % n) n)
    (hf : (b - a) % n / gcdI ((b - a) % n) n * f % (n / gcdI ((b - a) % n) n) = 1 % (n / gcdI ((b - a) % n) n)) (h : TwoOk n ((b - a) % n) ((p - a) % n) f 0) : p = a ∨ p = b := by
  have n0 : 0 < n := by omega
  have gd : gcdI ((b - a) % n) n ∣ n := Int.gcd_dvd_right _ _
  have gg : gcdI ((b - a) % n) n ∣ (b - a) % n := Int.gcd_dvd_left _ _
  have h1 := h.dv
  have h2 := h.le
  rw [Int.pow_zero, Int.mul_one] at h1
  rw [Int.pow_zero, Int.mul_one] at h2
  have d0 := mod_lo (i := p - a) n0
  have d1 := mod_hi (i := p - a) n0
  have g0 := mod_lo (i := b - a) n0
  have g1 := mod_hi (i := b - a) n0
  have back : ∀ q r : Int, 0 ≤ q → q < n → 0 ≤ r → r < n → (q - a) % n = (r - a) % n → q = r := fun q r q0 q1 r0 r1 e => by
    have := emod_eq_iff.mp e
    have e2 : q - a - (r - a) = q - r := by omega
    rw [e2] at this
    have := emod_eq_iff.mpr this
    rwa [Int.emod_eq_of_lt q0 q1, Int.emod_eq_of_lt r0 r1] at this
  have fin : (p - a) % n = 0 ∨ (p - a) % n = (b - a) % n → p = a ∨ p = b := by
    rintro (z | z)
    · left
      exact back p a p0 p1 a0 a1 (by rw [z, Int.sub_self, Int.zero_emod])
    · right
      exact back p b p0 p1 b0 b1 z
  apply fin
  clear fin back
  generalize hg : (b - a) % n = g at *
  generalize (p - a) % n = d at *
  generalize gcdI g n = sh at *
  obtain ⟨x, rfl⟩ := Int.dvd_of_emod_eq_zero h1
  obtain ⟨per, rfl⟩ := gd
  obtain ⟨u, rfl⟩ := gg
  rw [Int.mul_ediv_cancel_left _ (by omega)] at h2 hf
  rw [Int.mul_ediv_cancel_left _ (by omega)] at h2 hf
  have per0 : 0 < per := Int.pos_of_mul_pos_right n0 s0
  have x0 := mod_lo (i := x * f) per0
  have hf2 : per ∣ u * f - 1 := emod_eq_iff.mp hf
  have x1 : x < per := Int.lt_of_mul_lt_mul_left d1 (by omega)
  have x2 : 0 ≤ x := Int.nonneg_of_mul_nonneg_right d0 s0
  have u1 : u < per := Int.lt_of_mul_lt_mul_left g1 (by omega)
  have u2 : 0 ≤ u := Int.nonneg_of_mul_nonneg_right g0 s0
  rcases Int.lt_or_le (x * f % per) 1 with l | l
  · left
    have e : x * f % per = 0 := by omega
    have hx : per ∣ x * f := Int.dvd_of_emod_eq_zero e
    have hx2 : per ∣ x := by
      have e3 : x = u * (x * f) - x * (u * f - 1) := by grind
      rw [e3]
      exact Int.dvd_sub (Int.dvd_trans hx (Int.dvd_mul_left _ _)) (Int.dvd_trans hf2 (Int.dvd_mul_left _ _))
    have := Int.emod_eq_zero_of_dvd hx2
    rw [Int.emod_eq_of_lt x2 x1] at this
    rw [this, Int.mul_zero]
  · right
    have e : x * f % per = 1 := by omega
    have p1 : 1 < per := by have := mod_hi (i := x * f) per0; omega
    have hx : per ∣ x * f - 1 := emod_eq_iff.mp (by rw [e, Int.emod_eq_of_lt (by decide) p1])
    have hx2 : per ∣ x - u := by
      have e3 : x - u = u * (x * f - 1) - x * (u * f - 1) := by grind
      rw [e3]
      exact Int.dvd_sub (Int.dvd_trans hx (Int.dvd_mul_left _ _)) (Int.dvd_trans hf2 (Int.dvd_mul_left _ _))
    have := emod_eq_iff.mpr hx2
    rw [Int.emod_eq_of_lt x2 x1, Int.emod_eq_of_lt u2 u1] at this
    rw [this]

theorem bit_two {x y : Int} (h : x.natAbs < 2 ^ 150) (c : Nat) (hc : c ≤ 200) : CShl x (c : Int) := shl_ok (n := 150) h (by omega)
section
variable {P : Program} {w : World} {K : PySem.W.Frag} {mg : Str → Option Value} {base : Heap}
def sp_require_at_least : Sp := fun vs H Q _ => ∃ (i low : Int) (nm : V), vs = [.int i, .int low, nm] ∧ low ≤ i ∧ Q .non H
theorem ok_require_at_least (T : TX K mg) : FnOk P w K mg base CX0 3 T.f_require_at_least T.fd_require_at_least ["value", "low", "name"] sp_require_at_least := by
  refine T.F_require_at_least.ok sc_require_at_least (fun vs H Q E h => ?_) (fun cdv A outer s H vs Q E hr h => ?_)
  · obtain ⟨i, low, nm, rfl, _⟩ := h
    rfl
  · obtain ⟨i, low, nm, rfl, h, k⟩ := h
    refine ⟨_, (pss_one (ps_if (pt_not (pt_val (pe_call (ok_is_at_least T) hr rfl T.m_is_at_least T.F_is_at_least.kp T.b_is_at_least .nil pass0 (pa_cons (pv 0) (pa_cons (pv 1) pa_nil))))) pss_never pss_nil)), ?_⟩
    refine ⟨_, rfl, _, rfl, _, some i, low, rfl, rfl, _, rfl, itf ?_ k⟩
    show (!decide (low ≤ i)) = false
    rw [decide_eq_true h]
    rfl
def sp_require_place : Sp := fun vs H Q _ => ∃ (n p : Int) (nm : V), vs = [.int n, .int p, nm] ∧ 0 ≤ p ∧ p < n ∧ Q .non H
theorem ok_require_place (T : TX K mg) : FnOk P w K mg base CX0 3 T.f_require_place T.fd_require_place ["size", "place", "name"] sp_require_place := by
  refine T.F_require_place.ok sc_require_place (fun vs H Q E h => ?_) (fun cdv A outer s H vs Q E hr h => ?_)
  · obtain ⟨n, p, nm, rfl, _⟩ := h
    rfl
  · obtain ⟨n, p, nm, rfl, p0, p1, k⟩ := h
    refine ⟨_, (pss_one (ps_if (pt_not (pt_val (pe_call (ok_is_between T) hr rfl T.m_is_between T.F_is_between.kp T.b_is_between .nil pass0 (pa_cons (pv 1) (pa_cons pe_int (pa_cons (pe_op op_sub (pv 0) pe_int) pa_nil)))))) pss_never pss_nil)), ?_⟩
    refine ⟨_, rfl, _, rfl, _, _, rfl, rfl, _, some p, 0, n - 1, rfl, rfl, _, rfl, itf ?_ k⟩
    show (!(decide (0 ≤ p) && decide (p ≤ n - 1))) = false
    rw [decide_eq_true p0, decide_eq_true (by omega)]
    rfl
def sp_odd_part : Sp := fun vs H Q _ => ∃ (n : Int), vs = [.int n] ∧ 1 ≤ n ∧ n ≤ 10 ^ 45 ∧ ∀ (k : Nat) (o : Int), n = 2 ^ k * o → o % 2 = 1 → Q (.int o) H
theorem ok_odd_part (T : TX K mg) : FnOk P w K mg base CX0 1 T.f_odd_part T.fd_odd_part ["number"] sp_odd_part := by
  refine T.F_odd_part.ok sc_odd_part (fun vs H Q E h => ?_) (fun cdv A outer s H vs Q E hr h => ?_)
  · obtain ⟨n, rfl, _⟩ := h
    rfl
  · obtain ⟨n, rfl, n1, n2, k⟩ := h
    refine ⟨_, (pss_one (ps_ret (pe_op op_fdivW (pv 0) (pe_op op_and (pv 0) (pe_un un_neg (pv 0)))))), ?_⟩
    obtain ⟨j, a, e⟩ := odd_split n.natAbs n n1 (Nat.le_refl _)
    have eb : Builtin.bitAnd n (-n) = 2 ^ j := by
      rw [e]
      exact PySem.W.kbt_low j a
    have p0 := pow2_pos j
    have a0 : 1 ≤ 2 * a + 1 := by
      rcases Int.lt_or_le 0 (2 * a + 1) with h | h
      · omega
      · have := Int.mul_le_mul_of_nonneg_left h (show 0 ≤ (2 : Int) ^ j by omega)
        omega
    have pl : (2 : Int) ^ j ≤ n := by
      have := Int.mul_le_mul_of_nonneg_left a0 (show 0 ≤ (2 : Int) ^ j by omega)
      omega
    refine ⟨_, rfl, _, rfl, _, rfl, _, rfl, _, _, rfl, rfl, _, _, rfl, rfl, ?_, ?_⟩
    · rw [eb]
      exact wide_div (by omega) (abs45 (by omega) (by omega)) (by decide) (by decide)
    · dsimp only
      have e2 : n / Builtin.bitAnd n (-n) = 2 * a + 1 := by
        rw [eb]
        conv => lhs; lhs; rw [e]
        exact Int.mul_ediv_cancel_left _ (by omega)
      rw [e2]
      exact k j _ e (by omega)
def sp_require_two : Sp := fun vs H Q _ => ∃ (n a b p : Int), vs = [.int n, .int a, .int b, .int p] ∧ 0 ≤ a ∧ a < n ∧ 0 ≤ b ∧ b < n ∧ 0 ≤ p ∧ p < n ∧ a ≠ b ∧ Q .non H
theorem ok_require_two (T : TX K mg) : FnOk P w K mg base CX0 4 T.f_require_two T.fd_require_two ["size", "first", "second", "place"] sp_require_two := by
  refine T.F_require_two.ok sc_require_two (fun vs H Q E h => ?_) (fun cdv A outer s H vs Q E hr h => ?_)
  · obtain ⟨n, a, b, p, rfl, _⟩ := h
    rfl
  · obtain ⟨n, a, b, p, rfl, a0, a1, b0, b1, p0, p1, ne, k⟩ := h
    refine ⟨_, (pss_cons (ps_expr (pe_call (ok_require_at_least T) hr rfl T.m_require_at_least T.F_require_at_least.kp T.b_require_at_least .nil pass0 (pa_cons (pv 0) (pa_cons pe_int (pa_cons pe_str pa_nil))))) (pss_cons (ps_expr (pe_call (ok_require_place T) hr rfl T.m_require_place T.F_require_place.kp T.b_require_place .nil pass0 (pa_cons (pv 0) (pa_cons (pv 1) (pa_cons pe_str pa_nil))))) (pss_cons (ps_expr (pe_call (ok_require_place T) hr rfl T.m_require_place T.F_require_place.kp T.b_require_place .nil pass0 (pa_cons (pv 0) (pa_cons (pv 2) (pa_cons pe_str pa_nil))))) (pss_cons (ps_if (pt_cmpR op_eq (pv 1) (pv 2) (nomark _)) pss_never pss_nil) (pss_one (ps_expr (pe_call (ok_require_place T) hr rfl T.m_require_place T.F_require_place.kp T.b_require_place .nil pass0 (pa_cons (pv 0) (pa_cons (pv 3) (pa_cons pe_str pa_nil)))))))))), ?_⟩
    refine ⟨_, rfl, n, 1, _, rfl, by omega, ?_⟩
    refine ⟨_, rfl, _, rfl, n, a, _, rfl, a0, a1, ?_⟩
    refine ⟨_, rfl, _, rfl, n, b, _, rfl, b0, b1, ?_⟩
    refine ⟨_, rfl, _, rfl, rfl, _, rfl, itf (by rw [dec_int]; simp [ne]) ?_⟩
    exact ⟨_, rfl, _, rfl, n, p, _, rfl, p0, p1, k⟩
def sp_two_target_sum : Sp := fun vs H Q _ => ∃ (n a b p : Int), vs = [.int n, .int a, .int b, .int p] ∧ n ≤ 10 ^ 40 ∧ 0 ≤ a ∧ a < n ∧ 0 ≤ b ∧ b < n ∧ 0 ≤ p ∧ p < n ∧ a ≠ b ∧
  ∀ (k : Nat) (o : Int), gcdI ((b - a) % n) n = 2 ^ k * o → o % 2 = 1 →
    (¬ (p - a) % n % o = 0 → ∀ H2, Ex H H2 → Q .non H2) ∧
    ((p - a) % n % o = 0 → ∀ (f : Int) (c : Nat) (q l : Addr) H2, 0 ≤ f → f < n / gcdI ((b - a) % n) n → (b - a) % n / gcdI ((b - a) % n) n * f % (n / gcdI ((b - a) % n) n) = 1 % (n / gcdI ((b - a) % n) n) → TwoOk n ((b - a) % n) ((p - a) % n) f c → Ex H H2 →
      H2 q = some (.tup [.int c, .ref l]) → H2 l = some (.lst [.int (2 ^ c - (p - a) % n * 2 ^ c / gcdI ((b - a) % n) n * f % (n / gcdI ((b - a) % n) n)), .int ((p - a) % n * 2 ^ c / gcdI ((b - a) % n) n * f % (n / gcdI ((b - a) % n) n))]) → Q (.ref q) H2)
theorem ok_two_target_sum (T : TX K mg) : FnOk P w K mg base CX0 5 T.f_two_target_sum T.fd_two_target_sum ["size", "first", "second", "place"] sp_two_target_sum := by
  refine T.F_two_target_sum.ok sc_two_target_sum (fun vs H Q E h => ?_) (fun cdv A outer s H vs Q E hr h => ?_)
  · obtain ⟨n, a, b, p, rfl, _⟩ := h
    rfl
  · obtain ⟨n, a, b, p, rfl, n2, a0, a1, b0, b1, p0, p1, ne, k⟩ := h
    refine ⟨_, (pss_cons (ps_expr (pe_call (ok_require_two T) hr rfl T.m_require_two T.F_require_two.kp T.b_require_two .nil pass0 (pa_cons (pv 0) (pa_cons (pv 1) (pa_cons (pv 2) (pa_cons (pv 3) pa_nil)))))) (pss_cons (ps_par (i := 4) (j := 5) rfl sc_two_target_sum.nd rfl rfl (by decide) rfl rfl (pa_cons (pe_op op_mod (pe_op op_sub (pv 2) (pv 1)) (pv 0)) (pa_cons (pe_op op_mod (pe_op op_sub (pv 3) (pv 1)) (pv 0)) pa_nil)) (by rfl)) (pss_cons (ps_set (i := 6) sc_two_target_sum.nd rfl (Or.inl rfl) (pe_call (ok_greatest_common_divisor T) (hr.mono (by decide)) rfl T.m_greatest_common_divisor T.F_greatest_common_divisor.kp T.b_greatest_common_divisor .nil pass0 (pa_cons (pv 4) (pa_cons (pv 0) pa_nil)))) (pss_cons (ps_if (pt_cmpR op_ne (pe_op op_mod (pv 5) (pe_call (ok_odd_part T) (hr.mono (by decide)) rfl T.m_odd_part T.F_odd_part.kp T.b_odd_part .nil pass0 (pa_cons (pv 6) pa_nil))) pe_int (nomark _)) (pss_one (ps_ret pe_non)) pss_nil) (pss_cons (ps_set (i := 7) sc_two_target_sum.nd rfl (Or.inl rfl) pe_int) (pss_cons (ps_while PassesOwn.never (pt_cmpR op_ne (pe_op op_mod (pe_op op_shlW (pv 5) (pv 7)) (pv 6)) pe_int (nomark _)) (pss_one (ps_set (i := 7) sc_two_target_sum.nd rfl (Or.inl rfl) (pe_op op_add (pv 7) pe_int)))) (pss_cons (ps_set (i := 8) sc_two_target_sum.nd rfl (Or.inl rfl) (pe_op op_fdivW (pv 0) (pv 6))) (pss_cons (ps_set (i := 9) sc_two_target_sum.nd rfl (Or.inl rfl) (pe_call (ok_inverse T) (hr.mono (by decide)) rfl T.m_inverse T.F_inverse.kp T.b_inverse .nil pass0 (pa_cons (pe_op op_fdivW (pv 4) (pv 6)) (pa_cons (pv 8) pa_nil)))) (pss_cons (ps_while PassesOwn.never (pt_cmpR op_gt (pe_op op_mod (pe_op op_mulI (pe_op op_fdivW (pe_op op_shlW (pv 5) (pv 7)) (pv 6)) (pv 9)) (pv 8)) (pe_op op_shlW pe_int (pv 7)) (nomark _)) (pss_one (ps_set (i := 7) sc_two_target_sum.nd rfl (Or.inl rfl) (pe_op op_add (pv 7) pe_int)))) (pss_cons (ps_set (i := 10) sc_two_target_sum.nd rfl (Or.inl rfl) (pe_op op_mod (pe_op op_mulI (pe_op op_fdivW (pe_op op_shlW (pv 5) (pv 7)) (pv 6)) (pv 9)) (pv 8))) (pss_one (ps_ret (pe_tup (pa_cons (pv 7) (pa_cons (pe_lst (pa_cons (pe_op op_sub (pe_op op_shlW pe_int (pv 7)) (pv 10)) (pa_cons (pv 10) pa_nil))) pa_nil))))))))))))))), ?_⟩
    refine ⟨_, rfl, _, rfl, _, rfl, _, rfl, n, a, b, p, rfl, a0, a1, b0, b1, p0, p1, ne, ?_⟩
    have n0 : 0 < n := by omega
    refine ⟨_, rfl, _, rfl, _, _, rfl, rfl, _, rfl, _, _, rfl, rfl, n0, _, rfl, _, rfl, _, _, rfl, rfl, _, rfl, _, _, rfl, rfl, n0, _, _, rfl, ?_⟩
    have g0 := mod_lo (i := b - a) n0
    have g1 := mod_hi (i := b - a) n0
    have d0 := mod_lo (i := p - a) n0
    have d1 := mod_hi (i := p - a) n0
    dsimp only
    generalize (b - a) % n = g at k g0 g1
    generalize (p - a) % n = d at k d0 d1
    refine ⟨_, rfl, _, rfl, g, n, rfl, g0, (by omega), ?_⟩
    have s0 : 0 < gcdI g n := by
      have := gcd_pos2 (p := g) (show 1 ≤ n by omega)
      show (0 : Int) < ((Int.gcd g n : Nat) : Int)
      omega
    have sl : gcdI g n ≤ n := Int.le_of_dvd n0 (Int.gcd_dvd_right g n)
    have co := coprime_parts (g := g) (show 1 ≤ n by omega)
    have sd : gcdI g n ∣ n := Int.gcd_dvd_right g n
    generalize hsh : gcdI g n = sh at k s0 sl co sd
    have n45 : n ≤ 10 ^ 45 := Int.le_trans n2 (by decide)
    have shB : sh.natAbs < 2 ^ 150 := abs45 (by omega) (by omega)
    have dB : d.natAbs < 2 ^ 150 := abs45 d0 (by omega)
    refine ⟨_, rfl, _, rfl, sh, rfl, by omega, by omega, fun j o e ho => ?_⟩
    have o0 : 0 < o := by
      rcases Int.lt_or_le 0 o with h | h
      · exact h
      · have := Int.mul_le_mul_of_nonneg_left h (show 0 ≤ (2 : Int) ^ j by have := pow2_pos j; omega)
        omega
    refine ⟨_, _, rfl, rfl, o0, rfl, _, rfl, ?_⟩
    by_cases hd : d % o = 0
    case neg => exact itt (by rw [dec_int]; simp [hd]) ((k j o e ho).1 hd _ exr)
    refine itf (by rw [dec_int]; simp [hd]) ?_
    have k2 := (k j o e ho).2 hd
    have dj : d * 2 ^ j % sh = 0 := by
      rw [e]
      refine Int.emod_eq_zero_of_dvd ?_
      rw [Int.mul_comm d]
      exact Int.mul_dvd_mul_left _ (Int.dvd_of_emod_eq_zero hd)
    have jn : (2 : Int) ^ j ≤ n := by
      have h1 : (2 : Int) ^ j * 1 ≤ 2 ^ j * o := Int.mul_le_mul_of_nonneg_left (by omega) (by have := pow2_pos j; omega)
      omega
    have small : ∀ c : Nat, (2 : Int) ^ c ≤ n → c ≤ 140 := fun c h => by
      rcases Nat.lt_or_ge 140 c with z | z
      · have h1 := pow2_le (Nat.le_of_lt z)
        have h2 : (10 : Int) ^ 40 < 2 ^ 140 := by decide
        omega
      · exact z
    have j140 := small j jn
    refine ⟨fun m σ H2 => ∃ c : Nat, σ = [some (.int n), some (.int a), some (.int b), some (.int p), some (.int g), some (.int d), some (.int sh), some (.int c), none, none, none] ∧ H2 = H ∧ c ≤ j ∧ (c = 0 ∨ ((2 : Int) ^ (c - 1) < n ∧ ¬ d * 2 ^ (c - 1) % sh = 0)) ∧ m = j - c, ⟨_, 0, rfl, rfl, Nat.zero_le _, .inl rfl, rfl⟩, ?_⟩
    rintro m σ H ⟨c, rfl, rfl, cj, gc, rfl⟩
    refine ⟨_, rfl, _, rfl, _, _, rfl, rfl, shl_ok dB (by omega), _, rfl, _, _, rfl, rfl, s0, rfl, _, rfl, ?_⟩
    by_cases dv : d * 2 ^ c % sh = 0
    case neg =>
      have cj2 : c < j := by
        rcases Nat.lt_or_ge c j with z | z
        · exact z
        · have : c = j := by omega
          rw [this] at dv
          exact absurd dj dv
      refine itt (by show (!decide (V.int (d * 2 ^ c % sh) = V.int 0)) = true; rw [dec_int]; simp [dv]) ⟨_, fun _ _ h => h, _, rfl, _, _, rfl, rfl, _, (show j - (c + 1) < j - c by omega), c + 1, rfl, rfl, by omega, .inr ⟨?_, dv⟩, rfl⟩
      have h1 : (2 : Int) ^ c < 2 ^ j := by
        have h2 := pow2_le (show c + 1 ≤ j by omega)
        rw [Int.pow_succ] at h2
        have := pow2_pos c
        omega
      show (2 : Int) ^ c < n
      omega
    refine itf (by show (!decide (V.int (d * 2 ^ c % sh) = V.int 0)) = false; rw [dec_int]; simp [dv]) ?_
    have pr1 : 1 ≤ n / sh := by
      have := Int.ediv_le_ediv s0 sl
      rw [Int.ediv_self (by omega)] at this
      exact this
    have prn : n / sh ≤ n := Int.ediv_le_self _ (by omega)
    refine ⟨_, rfl, _, rfl, _, _, rfl, rfl, wide_div s0 shB (by decide) (by decide), ?_⟩
    refine ⟨_, rfl, _, rfl, _, _, rfl, rfl, wide_div s0 shB (by decide) (by decide), _, rfl, g / sh, n / sh, rfl, pr1, by omega, co, fun f H3 f0 f1 hf e3 => ?_⟩
    have k3 := k2 f
    generalize hper : n / sh = per at pr1 prn f1 hf k3
    have fB : f.natAbs < 2 ^ 150 := abs45 f0 (by omega)
    have pB : per.natAbs < 2 ^ 150 := abs45 (by omega) (by omega)
    refine ⟨fun m σ H4 => ∃ c : Nat, σ = [some (.int n), some (.int a), some (.int b), some (.int p), some (.int g), some (.int d), some (.int sh), some (.int c), some (.int per), some (.int f), none] ∧ H4 = H3 ∧ d * 2 ^ c % sh = 0 ∧ c ≤ 150 ∧ (c = 0 ∨ ((2 : Int) ^ (c - 1) < n ∧ (¬ d * 2 ^ (c - 1) % sh = 0 ∨ (2 : Int) ^ (c - 1) < d * 2 ^ (c - 1) / sh * f % per))) ∧ m = 150 - c, ⟨_, c, by rw [← hper]; rfl, rfl, dv, by omega, gc.imp id (fun z => ⟨z.1, .inl z.2⟩), rfl⟩, ?_⟩
    clear gc dv cj
    rintro m σ H3 ⟨c, rfl, rfl, dv, c150, gc, rfl⟩
    have xB : (d * 2 ^ c / sh).natAbs < 2 ^ 300 := by
      have h1 : (d * 2 ^ c).natAbs < 2 ^ (150 + 150) := by
        rw [Int.natAbs_mul, Nat.pow_add]
        refine Nat.mul_lt_mul_of_lt_of_le dB ?_ (by have : 0 < 2 ^ 150 := Nat.pow_pos (by decide); exact this)
        rw [Int.natAbs_pow]
        exact Nat.pow_le_pow_right (by decide) c150
      have h2 : (d * 2 ^ c / sh).natAbs ≤ (d * 2 ^ c).natAbs := Int.natAbs_ediv_le_natAbs _ _
      exact Nat.lt_of_le_of_lt h2 h1
    have mok : IntMulOk (d * 2 ^ c / sh) f := (wide_mul xB fB (by decide) (by decide) (by decide)).ok
    have per0 : 0 < per := by omega
    have cc0 := mod_lo (i := d * 2 ^ c / sh * f) per0
    have cc1 := mod_hi (i := d * 2 ^ c / sh * f) per0
    refine ⟨_, rfl, _, rfl, _, _, rfl, rfl, shl_ok dB (by omega), _, rfl, _, _, rfl, rfl, wide_div s0 shB (by decide) (by decide), _, rfl, _, _, rfl, rfl, mok, _, rfl, _, _, rfl, rfl, per0, _, rfl, _, _, rfl, rfl, shl_ok (n := 1) (by decide) (by omega), _, _, rfl, rfl, _, rfl, ?_⟩
    by_cases big : (2 : Int) ^ c < d * 2 ^ c / sh * f % per
    · refine itt (by show decide (1 * 2 ^ c < d * 2 ^ c / sh * f % per) = true; rw [Int.one_mul]; exact decide_eq_true big) ⟨_, fun _ _ h => h, _, rfl, _, _, rfl, rfl, _, (show 150 - (c + 1) < 150 - c from ?_), c + 1, rfl, rfl, ?_, ?_, .inr ⟨(show (2 : Int) ^ c < n by omega), .inr big⟩, rfl⟩
      · have := small c (by omega)
        omega
      · rw [Int.pow_succ, ← Int.mul_assoc, Int.mul_emod, dv, Int.zero_mul, Int.zero_emod]
      · have := small c (by omega)
        omega
    · refine itf (by show decide (1 * 2 ^ c < d * 2 ^ c / sh * f % per) = false; rw [Int.one_mul]; exact decide_eq_false big) ?_
      refine ⟨_, rfl, _, rfl, _, _, rfl, rfl, shl_ok dB (by omega), _, rfl, _, _, rfl, rfl, wide_div s0 shB (by decide) (by decide), _, rfl, _, _, rfl, rfl, mok, _, rfl, _, _, rfl, rfl, per0, ?_⟩
      refine ⟨_, rfl, _, rfl, _, _, rfl, rfl, shl_ok (n := 1) (by decide) (by omega), _, rfl, _, _, rfl, rfl, _, rfl, by show 2 ≤ sizeLine; decide, fun l hl => ⟨by show 2 ≤ sizeLine; decide, fun q hq => ?_⟩⟩
      refine k3 c q l _ f0 f1 hf ⟨by rw [hsh]; exact dv, by rw [hsh, hper]; omega, by rw [hsh, hper]; exact gc⟩ (ext e3 (ext (exn hl) (exn hq))) upd_same ?_
      rw [upd_ne (ne_of_none upd_same hq), upd_same]
      show some (HO.lst [V.int (1 * 2 ^ c - _), V.int _]) = _
      rw [Int.one_mul]
      rfl
def sp_min_calls_two : Sp := fun vs H Q _ => ∃ (n a b p : Int), vs = [.int n, .int a, .int b, .int p] ∧ n ≤ 10 ^ 40 ∧ 0 ≤ a ∧ a < n ∧ 0 ≤ b ∧ b < n ∧ 0 ≤ p ∧ p < n ∧ a ≠ b ∧
  ∀ (k : Nat) (o : Int), gcdI ((b - a) % n) n = 2 ^ k * o → o % 2 = 1 →
    (¬ (p - a) % n % o = 0 → ∀ H2, Ex H H2 → Q .non H2) ∧
    ((p - a) % n % o = 0 → ∀ (f : Int) (c : Nat) H2, 0 ≤ f → f < n / gcdI ((b - a) % n) n → (b - a) % n / gcdI ((b - a) % n) n * f % (n / gcdI ((b - a) % n) n) = 1 % (n / gcdI ((b - a) % n) n) → TwoOk n ((b - a) % n) ((p - a) % n) f c → Ex H H2 → Q (.int c) H2)
theorem ok_min_calls_two (T : TX K mg) : FnOk P w K mg base CX0 6 T.f_min_calls_two T.fd_min_calls_two ["size", "first", "second", "place"] sp_min_calls_two := by
  refine T.F_min_calls_two.ok sc_min_calls_two (fun vs H Q E h => ?_) (fun cdv A outer s H vs Q E hr h => ?_)
  · obtain ⟨n, a, b, p, rfl, _⟩ := h
    rfl
  · obtain ⟨n, a, b, p, rfl, n2, a0, a1, b0, b1, p0, p1, ne, k⟩ := h
    refine ⟨_, (pss_cons (ps_set (i := 4) sc_min_calls_two.nd rfl (Or.inl rfl) (pe_call (ok_two_target_sum T) hr rfl T.m_two_target_sum T.F_two_target_sum.kp T.b_two_target_sum .nil pass0 (pa_cons (pv 0) (pa_cons (pv 1) (pa_cons (pv 2) (pa_cons (pv 3) pa_nil)))))) (pss_one (ps_ret (pe_ifExp (pt_cmpR op_isN (pv 4) pe_non (nomark _)) pe_non (pe_ix ix_tup (pv 4) pe_int (fun _ _ => rfl)))))), ?_⟩
    refine ⟨_, rfl, _, rfl, _, rfl, _, rfl, n, a, b, p, rfl, n2, a0, a1, b0, b1, p0, p1, ne, fun j o e ho => ⟨fun hd H2 e2 => ?_, fun hd f c q l H2 f0 f1 hf two e2 hq hl => ?_⟩⟩
    · exact ⟨_, rfl, rfl, _, rfl, (k j o e ho).1 hd _ e2⟩
    · exact ⟨_, rfl, rfl, _, rfl, _, rfl, q, _, _, _, rfl, rfl, SqT.of hq, rfl, (k j o e ho).2 hd f c _ f0 f1 hf two e2⟩
end

theorem kb_min_calls_two_3210 {K : PySem.W.Frag} {mg : Str → Option Value} (T : TX K mg) : KBn K T.fd_min_calls_two ["size", "first", "second", "place"] 0 ["place", "second", "first", "size"] (fun us ws => pick [3, 2, 1, 0] (us ++ ws)) (fun vs zs => pick [3, 2, 1, 0] (vs ++ zs)) :=
  kbn_of T.F_min_calls_two 0 ["place", "second", "first", "size"] [3, 2, 1, 0] fun _ _ _ _ _ _ us ws h1 h2 => match us, ws, h1, h2 with | [], [_, _, _, _], _, _ => rfl
section
variable {P : Program} {w : World} {K : PySem.W.Frag} {mg : Str → Option Value} {base : Heap}
def sp_law_count : Sp := fun vs H Q _ => ∃ (n g d : Int), vs = [.int n, .int g, .int d] ∧ 1 ≤ n ∧ n ≤ 10 ^ 40 ∧ 0 ≤ g ∧ g < n ∧ 0 ≤ d ∧ d < n ∧
    (¬ d % gcdI g n = 0 → Q .non H) ∧
    (d % gcdI g n = 0 → ∀ f H2, 0 ≤ f → f < n / gcdI g n → g / gcdI g n * f % (n / gcdI g n) = 1 % (n / gcdI g n) → Ex H H2 → Q (.int (d / gcdI g n * f % (n / gcdI g n))) H2)
theorem ok_law_count (T : TX K mg) : FnOk P w K mg base CX0 2 T.f_law_count T.fd_law_count ["_law_ring_here", "_law_gap", "_law_away"] sp_law_count := by
  refine T.F_law_count.ok sc_law_count (fun vs H Q E h => ?_) (fun cdv A outer s H vs Q E hr h => ?_)
  · obtain ⟨n, g, d, rfl, _⟩ := h
    rfl
  · obtain ⟨n, g, d, rfl, n1, n2, g0, g1, d0, d1, k1, k2⟩ := h
    refine ⟨_, (pss_cons (ps_set (i := 3) sc_law_count.nd rfl (Or.inl rfl) (pe_call (ok_law_gcd T) hr rfl T.m_law_gcd T.F_law_gcd.kp T.b_law_gcd .nil pass0 (pa_cons (pv 1) (pa_cons (pv 0) pa_nil)))) (pss_cons (ps_if (pt_cmpR op_ne (pe_op op_mod (pv 2) (pv 3)) pe_int (nomark _)) (pss_one (ps_ret pe_non)) pss_nil) (pss_one (ps_ret (pe_op op_mod (pe_op op_mulI (pe_op op_fdivW (pv 2) (pv 3)) (pe_call (ok_law_inverse T) hr rfl T.m_law_inverse T.F_law_inverse.kp T.b_law_inverse .nil pass0 (pa_cons (pe_op op_fdivW (pv 1) (pv 3)) (pa_cons (pe_op op_fdivW (pv 0) (pv 3)) pa_nil)))) (pe_op op_fdivW (pv 0) (pv 3))))))), ?_⟩
    have n0 : 0 < n := by omega
    have s0 : 0 < gcdI g n := by
      have := gcd_pos2 (p := g) n1
      show (0 : Int) < ((Int.gcd g n : Nat) : Int)
      omega
    have sl : gcdI g n ≤ n := Int.le_of_dvd n0 (Int.gcd_dvd_right g n)
    have co := coprime_parts (g := g) n1
    refine ⟨_, rfl, _, rfl, g, n, rfl, g0, (by omega), ?_⟩
    have n45 : n ≤ 10 ^ 45 := Int.le_trans n2 (by decide)
    generalize gcdI g n = sh at *
    have shB : sh.natAbs < 2 ^ 150 := abs45 (by omega) (by omega)
    have pr1 : 1 ≤ n / sh := by
      have := Int.ediv_le_ediv s0 sl
      rw [Int.ediv_self (by omega)] at this
      exact this
    have prn : n / sh ≤ n := Int.ediv_le_self _ (by omega)
    refine ⟨_, rfl, _, rfl, _, _, rfl, rfl, s0, rfl, _, rfl, ?_⟩
    by_cases hd : d % sh = 0
    · refine itf (by rw [dec_int]; simp [hd]) ?_
      have dB : (d / sh).natAbs < 2 ^ 150 := by
        have h1 : 0 ≤ d / sh := Int.ediv_nonneg d0 (by omega)
        have h2 : d / sh ≤ d := Int.ediv_le_self _ d0
        exact abs45 h1 (by omega)
      refine ⟨_, rfl, _, rfl, _, _, rfl, rfl, wide_div s0 shB (by decide) (by decide), _, rfl, _, rfl, _, _, rfl, rfl, wide_div s0 shB (by decide) (by decide), _, rfl, _, rfl, _, _, rfl, rfl, wide_div s0 shB (by decide) (by decide), g / sh, n / sh, rfl, pr1, by omega, co, fun f H2 f0 f1 hf e2 => ?_⟩
      refine ⟨_, _, rfl, rfl, (wide_mul dB (abs45 f0 (by omega)) (by decide) (by decide) (by decide)).ok, _, rfl, _, rfl, _, _, rfl, rfl, wide_div s0 shB (by decide) (by decide), _, _, rfl, rfl, (by show 0 < n / sh; omega), ?_⟩
      exact k2 hd f H2 f0 f1 hf e2
    · exact itt (by rw [dec_int]; simp [hd]) (k1 hd)
end

section
variable {P : Program} {w : World} {K : PySem.W.Frag} {mg : Str → Option Value} {base : Heap}
def sp_law_ring : Sp := fun vs H Q _ => ∃ (s : Addr) (m : Nat), vs = [.ref s] ∧ Sr5 H s (m + 11) ∧ ∀ r H2, 2 ≤ r → r ≤ 10 ^ 40 → XB s H H2 → Sr5 H2 s m → Q (.int r) H2
theorem ok_law_ring (T : TX K mg) : FnOk P w K mg base CX0 3 T.f_law_ring T.fd_law_ring ["_law_source_here"] sp_law_ring := by
  refine T.F_law_ring.ok sc_law_ring (fun vs H Q E h => ?_) (fun cdv A outer s H vs Q E hr h => ?_)
  · obtain ⟨s, m, rfl, _⟩ := h
    rfl
  · obtain ⟨s, m, rfl, hs, k⟩ := h
    refine ⟨_, (pss_cons (ps_set (i := 1) sc_law_ring.nd rfl (Or.inl rfl) (pe_op op_shlW pe_int (pe_call (ok_law_take T) (hr.mono (by decide)) rfl T.m_law_take T.F_law_take.kp T.b_law_take .nil pass0 (pa_cons (pv 0) (pa_cons pe_int pa_nil))))) (pss_cons (ps_set (i := 2) sc_law_ring.nd rfl (Or.inl rfl) (pe_op op_add pe_int (pe_op op_mulI pe_int (pe_call (ok_law_large T) hr rfl T.m_law_large T.F_law_large.kp T.b_law_large .nil pass0 (pa_cons (pv 0) (pa_cons (pe_op op_pow pe_int pe_int) pa_nil)))))) (pss_cons (ps_set (i := 3) sc_law_ring.nd rfl (Or.inl rfl) (pe_lst (pa_cons (pe_op op_add pe_int (pe_call (ok_law_take T) (hr.mono (by decide)) rfl T.m_law_take T.F_law_take.kp T.b_law_take .nil pass0 (pa_cons (pv 0) (pa_cons pe_int pa_nil)))) (pa_cons (pe_op op_add pe_int (pe_call (ok_law_large T) hr rfl T.m_law_large T.F_law_large.kp T.b_law_large .nil pass0 (pa_cons (pv 0) (pa_cons (pe_op op_pow pe_int pe_int) pa_nil)))) (pa_cons (pe_op op_mulI pe_int (pv 1)) (pa_cons (pe_op op_add pe_int (pv 2)) (pa_cons (pe_op op_mulI (pe_op op_mulI pe_int (pv 1)) (pv 2)) pa_nil))))))) (pss_one (ps_ret (pe_ix ix_list (pv 3) (pe_call (ok_law_take T) (hr.mono (by decide)) rfl T.m_law_take T.F_law_take.kp T.b_law_take .nil pass0 (pa_cons (pv 0) (pa_cons pe_int pa_nil))) (fun _ _ => rfl))))))), ?_⟩
    refine ⟨_, rfl, s, 60, m + 10, rfl, hs, by decide, by decide +kernel, fun r1 H1 r10 r11 xb1 sr1 => ⟨_, _, rfl, rfl, shl_one r10 (by omega), ?_⟩⟩
    have pw : (1 : Int) * 2 ^ r1.toNat ≤ 2 ^ 60 := by
      rw [Int.one_mul]
      exact pow2_le (by omega)
    have pw0 : (1 : Int) ≤ 1 * 2 ^ r1.toNat := by
      rw [Int.one_mul]
      exact pow2_pos _
    have e60 : (2 : Int) ^ 60 = 1152921504606846976 := by decide
    rw [e60] at pw
    dsimp only
    generalize (1 : Int) * 2 ^ r1.toNat = pwr at pw pw0
    refine ⟨_, rfl, _, _, rfl, rfl, ⟨by decide, by decide, by decide⟩, s, _, m + 6, rfl, sr1, by decide, fun r2 H2 r20 r21 xb2 sr2 => ⟨_, _, rfl, rfl, mul_ok (.inl (by decide)), _, _, rfl, rfl, ?_⟩⟩
    have e11 : (10 : Int) ^ (11 : Int).toNat = 100000000000 := by decide
    rw [e11] at r21
    refine ⟨_, rfl, s, 49, m + 5, rfl, sr2, by decide, by decide +kernel, fun r3 H3 r30 r31 xb3 sr3 => ⟨_, _, rfl, rfl, ?_⟩⟩
    refine ⟨_, rfl, _, _, rfl, rfl, ⟨by decide, by decide, by decide⟩, s, _, m + 1, rfl, sr3, by decide, fun r4 H4 r40 r41 xb4 sr4 => ⟨_, _, rfl, rfl, ?_⟩⟩
    have e30 : (10 : Int) ^ (30 : Int).toNat = 1000000000000000000000000000000 := by decide
    rw [e30] at r41
    refine ⟨_, rfl, _, _, rfl, rfl, mul_ok (.inl (by decide)), _, rfl, _, _, rfl, rfl, _, rfl, _, _, rfl, rfl, mul_ok (.inl (by decide)), _, rfl, _, _, rfl, rfl, mul_ok (.inl (by omega)), by show 5 ≤ sizeLine; decide, fun l hl => ?_⟩
    have nl := sr4.ne hl
    refine ⟨_, rfl, _, rfl, s, 5, m, rfl, sr4.new hl, by decide, by decide +kernel, fun r5 H5 r50 r51 xb5 sr5 => ?_⟩
    obtain ⟨v, mv, gv⟩ := at_ex (xs := [2 + r3, 2 + r4, 2 * pwr, 2 + (1 + 2 * r2), 2 * pwr * (1 + 2 * r2)]) r50 r51
    refine ⟨l, _, _, _, rfl, rfl, SqL.of (xb5 _ _ nl upd_same), gv, ?_⟩
    have q1 : 2 * pwr * 1 ≤ 2 * pwr * (1 + 2 * r2) := Int.mul_le_mul_of_nonneg_left (by omega) (by omega)
    have q2 : 2 * pwr * (1 + 2 * r2) ≤ 2 * 1152921504606846976 * 200000000001 := Int.mul_le_mul (by omega) (by omega) (by omega) (by decide)
    have e40 : (10 : Int) ^ 40 = 10000000000000000000000000000000000000000 := by decide
    refine k v _ ?_ ?_ ((((xb1.trans xb2).trans xb3).trans xb4).trans (XB.trans (XB.of (exn hl)) xb5)) sr5
    · simp only [List.mem_cons, List.not_mem_nil, or_false] at mv
      rcases mv with rfl | rfl | rfl | rfl | rfl <;> omega
    · rw [e40]
      simp only [List.mem_cons, List.not_mem_nil, or_false] at mv
      rcases mv with rfl | rfl | rfl | rfl | rfl <;> omega
def sp_law_scene : Sp := fun vs H Q _ => ∃ (s : Addr) (m : Nat), vs = [.ref s] ∧ Sr5 H s (m + 36) ∧ ∀ (n a b p : Int) (q : Addr) H2, n ≤ 10 ^ 40 → 0 ≤ a → a < n → 0 ≤ b → b < n → 0 ≤ p → p < n → a ≠ b → H2 q = some (.tup [.int n, .int a, .int b, .int p]) → XB s H H2 → Sr5 H2 s m → Q (.ref q) H2
theorem ok_law_scene (T : TX K mg) : FnOk P w K mg base CX0 4 T.f_law_scene T.fd_law_scene ["_law_source_here"] sp_law_scene := by
  refine T.F_law_scene.ok sc_law_scene (fun vs H Q E h => ?_) (fun cdv A outer s H vs Q E hr h => ?_)
  · obtain ⟨s, m, rfl, _⟩ := h
    rfl
  · obtain ⟨s, m, rfl, hs, k⟩ := h
    refine ⟨_, (pss_cons (ps_set (i := 1) sc_law_scene.nd rfl (Or.inl rfl) (pe_call (ok_law_ring T) hr rfl T.m_law_ring T.F_law_ring.kp T.b_law_ring .nil pass0 (pa_cons (pv 0) pa_nil))) (pss_cons (ps_set (i := 2) sc_law_scene.nd rfl (Or.inl rfl) (pe_call (ok_law_large T) (hr.mono (by decide)) rfl T.m_law_large T.F_law_large.kp T.b_law_large .nil pass0 (pa_cons (pv 0) (pa_cons (pv 1) pa_nil)))) (pss_cons (ps_set (i := 3) sc_law_scene.nd rfl (Or.inl rfl) (pe_ix ix_list (pe_lst (pa_cons pe_int (pa_cons pe_int (pa_cons pe_int (pa_cons (pe_call (ok_law_gcd T) (hr.mono (by decide)) rfl T.m_law_gcd T.F_law_gcd.kp T.b_law_gcd .nil pass0 (pa_cons (pv 1) (pa_cons (pe_op op_add pe_int (pe_call (ok_law_take T) (hr.mono (by decide)) rfl T.m_law_take T.F_law_take.kp T.b_law_take .nil pass0 (pa_cons (pv 0) (pa_cons pe_int pa_nil)))) pa_nil))) pa_nil))))) (pe_call (ok_law_take T) (hr.mono (by decide)) rfl T.m_law_take T.F_law_take.kp T.b_law_take .nil pass0 (pa_cons (pv 0) (pa_cons pe_int pa_nil))) (fun _ _ => rfl))) (pss_cons (ps_set (i := 4) sc_law_scene.nd rfl (Or.inl rfl) (pe_ix ix_list (pe_lst (pa_cons (pv 3) (pa_cons (pe_op op_mulI (pv 3) (pe_op op_add pe_int (pe_call (ok_law_large T) (hr.mono (by decide)) rfl T.m_law_large T.F_law_large.kp T.b_law_large .nil pass0 (pa_cons (pv 0) (pa_cons (pv 1) pa_nil))))) (pa_cons (pe_op op_add pe_int (pe_call (ok_law_large T) (hr.mono (by decide)) rfl T.m_law_large T.F_law_large.kp T.b_law_large .nil pass0 (pa_cons (pv 0) (pa_cons (pv 1) pa_nil)))) pa_nil)))) (pe_call (ok_law_take T) (hr.mono (by decide)) rfl T.m_law_take T.F_law_take.kp T.b_law_take .nil pass0 (pa_cons (pv 0) (pa_cons pe_int pa_nil))) (fun _ _ => rfl))) (pss_cons (ps_set (i := 5) sc_law_scene.nd rfl (Or.inl rfl) (pe_op op_mod (pe_op op_add (pv 2) (pv 4)) (pv 1))) (pss_cons (ps_if (pt_cmpR op_eq (pv 5) (pv 2) (nomark _)) (pss_one (ps_set (i := 5) sc_law_scene.nd rfl (Or.inl rfl) (pe_op op_mod (pe_op op_add (pv 2) pe_int) (pv 1)))) pss_nil) (pss_cons (ps_set (i := 6) sc_law_scene.nd rfl (Or.inl rfl) (pe_op op_mod (pe_op op_add (pv 2) (pe_op op_fdivW (pe_op op_sub (pv 5) (pv 2)) pe_int)) (pv 1))) (pss_cons (ps_set (i := 7) sc_law_scene.nd rfl (Or.inl rfl) (pe_op op_mod (pe_op op_add (pv 2) (pe_op op_fdivW (pv 1) (pe_op op_shlW pe_int (pe_call (ok_law_take T) (hr.mono (by decide)) rfl T.m_law_take T.F_law_take.kp T.b_law_take .nil pass0 (pa_cons (pv 0) (pa_cons pe_int pa_nil)))))) (pv 1))) (pss_cons (ps_set (i := 8) sc_law_scene.nd rfl (Or.inl rfl) (pe_lst (pa_cons (pe_call (ok_law_large T) (hr.mono (by decide)) rfl T.m_law_large T.F_law_large.kp T.b_law_large .nil pass0 (pa_cons (pv 0) (pa_cons (pv 1) pa_nil))) (pa_cons (pv 2) (pa_cons (pv 5) (pa_cons (pv 6) (pa_cons (pv 7) (pa_cons (pe_op op_mod (pe_op op_add (pv 2) (pe_op op_mulI (pv 3) (pe_call (ok_law_large T) (hr.mono (by decide)) rfl T.m_law_large T.F_law_large.kp T.b_law_large .nil pass0 (pa_cons (pv 0) (pa_cons (pv 1) pa_nil))))) (pv 1)) pa_nil)))))))) (pss_one (ps_ret (pe_tup (pa_cons (pv 1) (pa_cons (pv 2) (pa_cons (pv 5) (pa_cons (pe_ix ix_list (pv 8) (pe_call (ok_law_take T) (hr.mono (by decide)) rfl T.m_law_take T.F_law_take.kp T.b_law_take .nil pass0 (pa_cons (pv 0) (pa_cons pe_int pa_nil))) (fun _ _ => rfl)) pa_nil)))))))))))))))), ?_⟩
    refine ⟨_, rfl, s, m + 25, rfl, hs, fun n H1 n2 n40 xb1 sr1 => ?_⟩
    have n0 : 0 < n := by omega
    refine ⟨_, rfl, _, rfl, s, n, m + 21, rfl, sr1, n0, fun a H2 a0 a1 xb2 sr2 => ?_⟩
    -- the unit
    refine ⟨_, rfl, _, rfl, s, 5040, m + 20, rfl, sr2, by decide, by decide +kernel, fun r1 H3 r10 r11 xb3 sr3 => ⟨_, _, rfl, rfl, n, 1 + r1, rfl, by omega, by omega, ?_⟩⟩
    have gp : 1 ≤ gcdI n (1 + r1) ∧ gcdI n (1 + r1) ≤ 5040 := by
      have h1 := gcd_pos2 (p := n) (show 1 ≤ 1 + r1 by omega)
      have h2 : gcdI n (1 + r1) ≤ 1 + r1 := Int.le_of_dvd (by omega) (Int.gcd_dvd_right _ _)
      constructor
      · show (1 : Int) ≤ ((Int.gcd n (1 + r1) : Nat) : Int)
        omega
      · omega
    refine ⟨by show 4 ≤ sizeLine; decide, fun l1 hl1 => ?_⟩
    have nl1 := sr3.ne hl1
    refine ⟨_, rfl, s, 4, m + 19, rfl, sr3.new hl1, by decide, by decide +kernel, fun r2 H4 r20 r21 xb4 sr4 => ?_⟩
    obtain ⟨un, mu, gu⟩ := at_ex (xs := [1, 2, 3, gcdI n (1 + r1)]) r20 r21
    have un1 : 1 ≤ un ∧ un ≤ 5040 := by
      simp only [List.mem_cons, List.not_mem_nil, or_false] at mu
      rcases mu with rfl | rfl | rfl | rfl <;> omega
    refine ⟨l1, _, _, _, rfl, rfl, SqL.of (xb4 _ _ nl1 upd_same), gu, ?_⟩
    have xb14 : XB s H H4 := ((xb1.trans xb2).trans xb3).trans (XB.trans (XB.of (exn hl1)) xb4)
    clear gu xb4
    -- the gap
    refine ⟨_, rfl, _, rfl, _, rfl, _, rfl, s, n, m + 15, rfl, sr4, n0, fun r3 H5 r30 r31 xb5 sr5 => ⟨_, _, rfl, rfl, _, _, rfl, rfl, mul_ok (.inl (by omega)), ?_⟩⟩
    refine ⟨_, rfl, _, rfl, s, n, m + 11, rfl, sr5, n0, fun r4 H6 r40 r41 xb6 sr6 => ⟨_, _, rfl, rfl, by show 3 ≤ sizeLine; decide, fun l2 hl2 => ?_⟩⟩
    have nl2 := sr6.ne hl2
    refine ⟨_, rfl, s, 3, m + 10, rfl, sr6.new hl2, by decide, by decide +kernel, fun r5 H7 r50 r51 xb7 sr7 => ?_⟩
    obtain ⟨gap, mg2, gg⟩ := at_ex (xs := [un, un * (1 + r3), 1 + r4]) r50 r51
    refine ⟨l2, _, _, _, rfl, rfl, SqL.of (xb7 _ _ nl2 upd_same), gg, ?_⟩
    have xb17 : XB s H H7 := ((xb14.trans xb5).trans xb6).trans (XB.trans (XB.of (exn hl2)) xb7)
    clear gg xb7 mg2
    -- the other
    refine ⟨_, rfl, _, rfl, _, _, rfl, rfl, _, rfl, _, _, rfl, rfl, n0, ?_⟩
    dsimp only [tSeq]
    refine ifs_cutS (fun σ => ∃ b : Int, 0 ≤ b ∧ b < n ∧ a ≠ b ∧ σ = [some (.ref s), some (.int n), some (.int a), some (.int un), some (.int gap), some (.int b), none, none, none]) ?_ ?_
    · rintro σ ⟨b, b0, b1, ab, rfl⟩
      refine ⟨_, rfl, _, rfl, _, rfl, _, _, rfl, rfl, _, _, rfl, rfl, ⟨by decide, by decide +kernel⟩, _, _, rfl, rfl, _, rfl, _, _, rfl, rfl, n0, ?_⟩
      have h0 := mod_lo (i := a + (b - a) / 2) n0
      have h1 := mod_hi (i := a + (b - a) / 2) n0
      dsimp only
      generalize (a + (b - a) / 2) % n = half at h0 h1
      refine ⟨_, rfl, _, rfl, _, rfl, s, 9, m + 9, rfl, sr7, by decide, by decide +kernel, fun r6 H8 r60 r61 xb8 sr8 => ⟨_, _, rfl, rfl, shl_one r60 (by omega), _, _, rfl, rfl, ?_, _, _, rfl, rfl, _, rfl, _, _, rfl, rfl, n0, ?_⟩⟩
      · have q1 : (1 : Int) * 2 ^ r6.toNat ≤ 2 ^ 60 := by rw [Int.one_mul]; exact pow2_le (by omega)
        have q0 : (1 : Int) ≤ 1 * 2 ^ r6.toNat := by rw [Int.one_mul]; exact pow2_pos _
        have e61 : (2 : Nat) ^ 61 = 2 * 1152921504606846976 := by decide
        have e60 : (2 : Int) ^ 60 = 1152921504606846976 := by decide
        rw [e60] at q1
        exact wide_div (b := 61) (by omega) (by rw [e61]; omega) (by decide) (by decide)
      have m0 := mod_lo (i := a + n / (1 * 2 ^ r6.toNat)) n0
      have m1 := mod_hi (i := a + n / (1 * 2 ^ r6.toNat)) n0
      dsimp only
      generalize (a + n / (1 * 2 ^ r6.toNat)) % n = moved at m0 m1
      refine ⟨_, rfl, _, rfl, s, n, m + 5, rfl, sr8, n0, fun r7 H9 r70 r71 xb9 sr9 => ?_⟩
      refine ⟨_, rfl, _, rfl, _, rfl, _, rfl, _, rfl, _, rfl, _, rfl, _, rfl, s, n, m + 1, rfl, sr9, n0, fun r8 H10 r80 r81 xb10 sr10 => ⟨_, _, rfl, rfl, mul_ok (.inl (by omega)), _, _, rfl, rfl, _, rfl, _, _, rfl, rfl, n0, by show 6 ≤ sizeLine; decide, fun l3 hl3 => ?_⟩⟩
      have nl3 := sr10.ne hl3
      have w0 := mod_lo (i := a + un * r8) n0
      have w1 := mod_hi (i := a + un * r8) n0
      refine ⟨_, rfl, _, rfl, _, rfl, _, rfl, _, rfl, s, 6, m, rfl, sr10.new hl3, by decide, by decide +kernel, fun r9 H11 r90 r91 xb11 sr11 => ?_⟩
      obtain ⟨sp, ms, gs⟩ := at_ex (xs := [r7, a, b, half, moved, (a + un * r8) % n]) r90 r91
      have sp0 : 0 ≤ sp ∧ sp < n := by
        simp only [List.mem_cons, List.not_mem_nil, or_false] at ms
        rcases ms with rfl | rfl | rfl | rfl | rfl | rfl <;> omega
      refine ⟨l3, _, _, _, rfl, rfl, SqL.of (xb11 _ _ nl3 upd_same), gs, by show 4 ≤ sizeLine; decide, fun q hq => ?_⟩
      exact k n a b sp q _ n40 a0 a1 b0 b1 sp0.1 sp0.2 ab upd_same ((((xb17.trans xb8).trans xb9).trans xb10).trans (XB.trans (XB.of (exn hl3)) (xb11.trans (XB.of (exn hq))))) (sr11.new hq)
    · intro N hN
      have b0 := mod_lo (i := a + gap) n0
      have b1 := mod_hi (i := a + gap) n0
      refine ⟨_, rfl, _, rfl, rfl, _, rfl, ?_⟩
      by_cases e : (a + gap) % n = a
      · refine itt (by rw [dec_int]; simp [e]) ⟨_, rfl, _, _, rfl, rfl, _, rfl, _, _, rfl, rfl, n0, hN _ ⟨_, mod_lo n0, mod_hi n0, ?_, rfl⟩⟩
        intro z
        have h1 : a % n = (a + 1) % n := by rw [Int.emod_eq_of_lt a0 a1]; exact z
        have h2 : n ≤ 1 := Int.le_of_dvd (by decide) (by have := emod_eq_iff.mp h1.symm; rwa [show a + 1 - a = 1 by omega] at this)
        omega
      · exact itf (by rw [dec_int]; simp [e]) (hN _ ⟨_, b0, b1, fun z => e z.symm, rfl⟩)
def sp_law_right : Sp := fun vs H Q _ => ∃ (n a b p : Int), vs = [.int n, .int a, .int b, .int p] ∧ n ≤ 10 ^ 40 ∧ 0 ≤ a ∧ a < n ∧ 0 ≤ b ∧ b < n ∧ 0 ≤ p ∧ p < n ∧ a ≠ b ∧ ∀ H2, Ex H H2 → Q (.bl true) H2
theorem ok_law_right (T : TX K mg) : FnOk P w K mg base CX0 7 T.f_law_right T.fd_law_right ["_law_ring_here", "_law_start", "_law_other", "_law_spot"] sp_law_right := by
  refine T.F_law_right.ok sc_law_right (fun vs H Q E h => ?_) (fun cdv A outer s H vs Q E hr h => ?_)
  · obtain ⟨n, a, b, p, rfl, _⟩ := h
    rfl
  · obtain ⟨n, a, b, p, rfl, n2, a0, a1, b0, b1, p0, p1, ne, k⟩ := h
    refine ⟨_, (pss_cons (ps_par (i := 4) (j := 5) rfl sc_law_right.nd rfl rfl (by decide) rfl rfl (pa_cons (pe_op op_mod (pe_op op_sub (pv 2) (pv 1)) (pv 0)) (pa_cons (pe_op op_mod (pe_op op_sub (pv 3) (pv 1)) (pv 0)) pa_nil)) (by rfl)) (pss_cons (ps_set (i := 6) sc_law_right.nd rfl (Or.inl rfl) (pe_call (ok_law_gcd T) (hr.mono (by decide)) rfl T.m_law_gcd T.F_law_gcd.kp T.b_law_gcd .nil pass0 (pa_cons (pv 4) (pa_cons (pv 0) pa_nil)))) (pss_cons (ps_while PassesOwn.never (pt_cmpR op_eq (pe_op op_mod (pv 6) pe_int) pe_int (nomark _)) (pss_one (ps_set (i := 6) sc_law_right.nd rfl (Or.inl rfl) (pe_op op_fdivW (pv 6) pe_int)))) (pss_cons (ps_set (i := 7) sc_law_right.nd rfl (Or.inl rfl) (pe_call (ok_min_calls_two T) hr rfl T.m_min_calls_two T.F_min_calls_two.kp T.b_min_calls_two .nil pass0 (pa_cons (pv 0) (pa_cons (pv 1) (pa_cons (pv 2) (pa_cons (pv 3) pa_nil)))))) (pss_cons (ps_if (pt_cmpR (op_neD hr.units) (pe_callKw (ok_min_calls_two T) hr rfl T.m_min_calls_two T.F_min_calls_two.kp (kb_min_calls_two_3210 T) pass0 (pk_cons (pv 3) (pk_cons (pv 2) (pk_cons (pv 1) (pk_cons (pv 0) pk_nil))))) (pv 7) (nomark _)) (pss_one (ps_ret pe_bl)) pss_nil) (pss_cons (ps_if (PW.pt (pw_or (pt_cmpR op_isN (pv 7) pe_non (nomark _)) (pw_or1 (pt_cmpR op_ne (pe_op op_mod (pv 5) (pv 6)) pe_int (nomark _))))) (pss_one (ps_ret (pe_and (pe_cmpR op_isN (pv 7) pe_non (nomark _)) (pe_one (pe_cmpR op_ne (pe_op op_mod (pv 5) (pv 6)) pe_int (nomark _)))))) pss_nil) (pss_cons (ps_if (PW.pt (pw_or (pt_val (pe_callB call_isi (by rfl) T.z_isinstance (by decide +kernel) (pa_cons (pv 7) (pa_cons (pe_bltn (v := .ty "bool") rfl T.z_bool (by decide +kernel) rfl) pa_nil)))) (pw_or1 (pt_not (pt_chain op_le op_le pe_int (pv 7) (pe_bits (pv 0))))))) (pss_one (ps_ret pe_bl)) pss_nil) (pss_cons (ps_set (i := 8) sc_law_right.nd rfl (Or.inl rfl) (pe_call (ok_law_count T) (hr.mono (by decide)) rfl T.m_law_count T.F_law_count.kp T.b_law_count .nil pass0 (pa_cons (pv 0) (pa_cons (pv 4) (pa_cons (pe_op op_mod (pe_op op_shlW (pv 5) (pv 7)) (pv 0)) pa_nil))))) (pss_cons (ps_if (PW.pt (pw_or (pt_cmpR op_isN (pv 8) pe_non (nomark _)) (pw_or1 (pt_cmpR op_gt (pv 8) (pe_op op_shlW pe_int (pv 7)) (nomark _))))) (pss_one (ps_ret pe_bl)) pss_nil) (pss_cons (ps_if (pt_cmpR (op_eqD hr.units) (pv 7) pe_int (nomark _)) (pss_one (ps_ret (pe_cmpR op_in_seq (pv 3) (pe_tup (pa_cons (pv 1) (pa_cons (pv 2) pa_nil))) rfl))) pss_nil) (pss_cons (ps_set (i := 9) sc_law_right.nd rfl (Or.inl rfl) (pe_call (ok_law_count T) (hr.mono (by decide)) rfl T.m_law_count T.F_law_count.kp T.b_law_count .nil pass0 (pa_cons (pv 0) (pa_cons (pv 4) (pa_cons (pe_op op_mod (pe_op op_shlW (pv 5) (pe_op op_sub (pv 7) pe_int)) (pv 0)) pa_nil))))) (pss_one (ps_ret (pe_or (pe_cmpR op_isN (pv 9) pe_non (nomark _)) (pe_one (pe_cmpR op_gt (pv 9) (pe_op op_shlW pe_int (pe_op op_sub (pv 7) pe_int)) (nomark _))))))))))))))))), ?_⟩
    have n0 : 0 < n := by omega
    refine ⟨_, rfl, _, rfl, _, _, rfl, rfl, _, rfl, _, _, rfl, rfl, n0, _, rfl, _, rfl, _, _, rfl, rfl, _, rfl, _, _, rfl, rfl, n0, _, _, rfl, ?_⟩
    refine ⟨_, rfl, _, rfl, _, n, rfl, mod_lo n0, (by omega), ?_⟩
    have s0 : 0 < gcdI ((b - a) % n) n := by
      have := gcd_pos2 (p := (b - a) % n) (show 1 ≤ n by omega)
      show (0 : Int) < ((Int.gcd ((b - a) % n) n : Nat) : Int)
      omega
    -- the odd part
    refine ⟨fun m σ H2 => ∃ (j : Nat) (o : Int), σ = [some (.int n), some (.int a), some (.int b), some (.int p), some (.int ((b - a) % n)), some (.int ((p - a) % n)), some (.int o), none, none, none] ∧ H2 = H ∧ gcdI ((b - a) % n) n = 2 ^ j * o ∧ 0 < o ∧ m = o.toNat, ⟨_, 0, _, rfl, rfl, by rw [Int.pow_zero, Int.one_mul], s0, rfl⟩, ?_⟩
    rintro m σ H ⟨j, o, rfl, rfl, eo, o0, rfl⟩
    refine ⟨_, rfl, _, _, rfl, rfl, (by show (0 : Int) < 2; decide), rfl, _, rfl, ?_⟩
    by_cases ho : o % 2 = 0
    · refine itt (by rw [dec_int]; simp [ho]) ⟨_, fun _ _ h => h, _, rfl, _, _, rfl, rfl, ⟨by decide, by decide +kernel⟩, _, (show (o / 2).toNat < o.toNat by omega), j + 1, o / 2, rfl, rfl, ?_, by omega, rfl⟩
      rw [eo, Int.pow_succ, Int.mul_assoc]
      congr 1
      omega
    refine itf (by rw [dec_int]; simp [ho]) ?_
    have ho : o % 2 = 1 := by omega
    have uo : ∀ (j2 : Nat) (o2 : Int), gcdI ((b - a) % n) n = 2 ^ j2 * o2 → o2 % 2 = 1 → o2 = o := fun j2 o2 e2 h2 => (odd_unique (e2.symm.trans eo) h2 ho).1
    have d0 := mod_lo (i := p - a) n0
    have d1 := mod_hi (i := p - a) n0
    have g0 := mod_lo (i := b - a) n0
    have g1 := mod_hi (i := b - a) n0
    refine ⟨_, rfl, _, rfl, _, rfl, _, rfl, n, a, b, p, rfl, n2, a0, a1, b0, b1, p0, p1, ne, fun j2 o2 e2 h2 => ?_⟩
    obtain rfl := uo j2 o2 e2 h2
    constructor
    · intro hd H1 e1
      refine ⟨_, rfl, _, rfl, _, rfl, _, rfl, rfl, n, a, b, p, rfl, n2, a0, a1, b0, b1, p0, p1, ne, fun j3 o3 e3 h3 => ?_⟩
      obtain rfl := uo j3 o3 e3 h3
      refine ⟨fun _ H3 e13 => ?_, fun z => absurd z hd⟩
      refine ⟨_, rfl, .none, .none, .non, .non, (sh_none (n := 60)).ok, (sh_none (n := 60)).ok, _, rfl, itf (eqv_same sh_none) ?_⟩
      refine ⟨_, rfl, rfl, _, rfl, itt (by simp) (itt rfl ?_)⟩
      refine ⟨_, rfl, rfl, _, rfl, itt (by simp) ?_⟩
      refine ⟨_, rfl, _, rfl, _, _, rfl, rfl, o0, rfl, ?_⟩
      have e9 : (!decide (V.int ((p - a) % n % o3) = V.int 0)) = true := by rw [dec_int]; simp [hd]
      dsimp only
      rw [e9]
      exact k _ (ext e1 e13)
    · intro hd f c H1 f0 f1 hf two e1
      have pr0 : 0 < n / gcdI ((b - a) % n) n := by omega
      have uf : ∀ f2, 0 ≤ f2 → f2 < n / gcdI ((b - a) % n) n → (b - a) % n / gcdI ((b - a) % n) n * f2 % (n / gcdI ((b - a) % n) n) = 1 % (n / gcdI ((b - a) % n) n) → f2 = f := fun f2 z0 z1 z2 => inv_unique z0 z1 f0 f1 z2 hf
      have c141 : c ≤ 141 := by
        rcases two.least with z | ⟨z, _⟩
        · omega
        · rcases Nat.lt_or_ge 141 c with y | y
          · have h1 := pow2_le (show 140 ≤ c - 1 by omega)
            have h2 : (10 : Int) ^ 40 < 2 ^ 140 := by decide
            omega
          · exact y
      refine ⟨_, rfl, _, rfl, _, rfl, _, rfl, rfl, n, a, b, p, rfl, n2, a0, a1, b0, b1, p0, p1, ne, fun j3 o3 e3 h3 => ?_⟩
      obtain rfl := uo j3 o3 e3 h3
      refine ⟨fun z => absurd hd z, fun _ f2 c2 H3 f20 f21 hf2 two2 e13 => ?_⟩
      obtain rfl := uf f2 f20 f21 hf2
      obtain rfl := TwoOk.same pr0 s0 two two2
      refine ⟨_, rfl, .int _, .int _, .int _, .int _, (sh_int (n := 60) _).ok, (sh_int (n := 60) _).ok, _, rfl, itf (eqv_same (sh_int _)) ?_⟩
      refine ⟨_, rfl, rfl, _, rfl, itf (by simp) ?_⟩
      refine ⟨_, rfl, _, rfl, _, _, rfl, rfl, o0, rfl, _, rfl, itf (by rw [dec_int]; simp [hd]) ?_⟩
      refine ⟨_, rfl, _, _, _, _, false, rfl, .ty _, .base (.int _), kit_ty (by decide +kernel), _, rfl, ?_⟩
      have bits : (c : Int) ≤ (Builtin.Int.intBits n : Nat) := by
        rcases two.least with z | ⟨z, _⟩
        · omega
        · rcases Nat.lt_or_ge (Builtin.Int.intBits n) c with y | y
          · have h1 := pow2_le (show Builtin.Int.intBits n ≤ c - 1 by omega)
            have h2 : n < 2 ^ Builtin.Int.intBits n := by
              unfold Builtin.Int.intBits
              rw [if_neg (by simp; omega)]
              have h3 : n.natAbs < 2 ^ (n.natAbs.log2 + 1) := Nat.lt_log2_self
              have h4 : ((2 ^ (n.natAbs.log2 + 1) : Nat) : Int) = (2 : Int) ^ (n.natAbs.log2 + 1) := by simp
              omega
            omega
          · omega
      refine ⟨_, rfl, _, _, rfl, rfl, _, rfl, itt (decide_eq_true (by omega)) ⟨_, rfl, n, rfl, _, _, rfl, rfl, _, rfl, itf (by rw [decide_eq_true bits]; rfl) ?_⟩⟩
      have dB : ((p - a) % n).natAbs < 2 ^ 150 := abs45 d0 (Int.le_trans (by omega) (show (10 : Int) ^ 40 ≤ 10 ^ 45 by decide))
      have gd : gcdI ((b - a) % n) n ∣ n := Int.gcd_dvd_right _ _
      obtain ⟨sm0, sm1⟩ := share_mod s0 gd two.dv
      -- enough
      refine ⟨_, rfl, _, rfl, _, rfl, _, rfl, _, _, rfl, rfl, shl_ok dB (by omega), _, rfl, _, _, rfl, rfl, n0, n, (b - a) % n, (p - a) % n * 2 ^ c % n, rfl, by omega, n2, g0, g1, mod_lo n0, mod_hi n0, fun z => absurd sm0 z, fun _ f3 H4 f30 f31 hf3 e4 => ?_⟩
      obtain rfl := uf f3 f30 f31 hf3
      rw [sm1]
      refine ⟨_, rfl, rfl, _, rfl, itf (by simp) ?_⟩
      refine ⟨_, rfl, _, rfl, _, _, rfl, rfl, shl_ok (n := 1) (by decide) (by omega), _, _, rfl, rfl, _, rfl, itf (decide_eq_false (by show ¬ 1 * 2 ^ c < _; rw [Int.one_mul]; have := two.le; omega)) ?_⟩
      have E4 : Ex H H4 := ext e1 (ext e13 e4)
      refine ⟨_, rfl, .int _, .int _, .int _, .int _, (sh_int (n := 60) _).ok, (sh_int (n := 60) _).ok, _, rfl, ?_⟩
      by_cases c0 : c = 0
      · subst c0
        refine itt (by simp [PyData.eqv]) ?_
        refine ⟨_, rfl, _, rfl, _, rfl, by show 2 ≤ sizeLine; decide, fun q hq => ⟨q, _, rfl, .inr (SqT.of upd_same), rfl, rfl, ?_⟩⟩
        have hin : inV (V.int p) [V.int a, V.int b] = true := by
          rcases two_zero a0 a1 b0 b1 p0 p1 s0 hf3 two with z | z
          · subst z
            simp [inV, eqV]
          · subst z
            simp [inV, eqV]
        show Q (.bl (inV (V.int p) [V.int a, V.int b])) _
        rw [hin]
        exact k _ (ext E4 (exn hq))
      · refine itf (by simp [PyData.eqv]; omega) ?_
        -- fewer
        have ec : ((c : Int) - 1).toNat = c - 1 := by omega
        have lst := two.least.resolve_left c0
        refine ⟨_, rfl, _, rfl, _, rfl, _, rfl, _, _, rfl, rfl, _, _, rfl, rfl, ⟨by omega, ?_⟩, _, rfl, _, _, rfl, rfl, n0, n, (b - a) % n, (p - a) % n * 2 ^ (c - 1) % n, by rw [ec]; rfl, by omega, n2, g0, g1, mod_lo n0, mod_hi n0, fun z => ?_, fun z f4 H5 f40 f41 hf4 e5 => ?_⟩
        · have h1 := (shl_ok (i := (p - a) % n) (j := c - 1) dB (by omega)).2
          have h2 : (((c - 1 : Nat) : Int)) = (c : Int) - 1 := by omega
          rw [h2] at h1
          exact h1
        · refine ⟨_, rfl, rfl, _, rfl, itt (by simp) ?_⟩
          exact k _ E4
        · obtain rfl := uf f4 f40 f41 hf4
          have dvp : (p - a) % n * 2 ^ (c - 1) % gcdI ((b - a) % n) n = 0 := by
            rw [Int.emod_emod_of_dvd _ gd] at z
            exact z
          rw [(share_mod s0 gd dvp).2]
          refine ⟨_, rfl, rfl, _, rfl, itf (by simp) ?_⟩
          refine ⟨_, rfl, _, rfl, _, _, rfl, rfl, _, _, rfl, rfl, shl_one (by omega) (by omega), _, _, rfl, rfl, ?_⟩
          have hb : (2 : Int) ^ (c - 1) < (p - a) % n * 2 ^ (c - 1) / gcdI ((b - a) % n) n * f4 % (n / gcdI ((b - a) % n) n) := lst.2.resolve_left (fun y => y dvp)
          dsimp only
          rw [ec, Int.one_mul, decide_eq_true hb]
          exact k _ (ext E4 e5)
end

/-- a cut list of ints is one -/
theorem cut_map (ns : List Int) (lo hi : Option Int) : ∃ ms : List Int, cutV (ns.map V.int) lo hi = ms.map V.int := by
  refine ⟨(ns.drop (HT.sIx (ns.map V.int).length 0 lo)).take (HT.sIx (ns.map V.int).length (ns.map V.int).length hi - HT.sIx (ns.map V.int).length 0 lo), ?_⟩
  unfold cutV
  rw [List.map_take, List.map_drop]
theorem cut_len (xs : List V) (lo hi : Option Int) : (cutV xs lo hi).length ≤ xs.length := by
  unfold cutV
  rw [List.length_take, List.length_drop]
  omega
section
variable {P : Program} {w : World} {K : PySem.W.Frag} {mg : Str → Option Value} {base : Heap}
def sp_law (K : PySem.W.Frag) : Sp := fun vs H Q _ => ∃ (a : Addr) (ns : List Int), vs = [.ref a] ∧ SqL K H a (ns.map V.int) ∧ ns.length ≤ 63 ∧ ∀ H2, Q (.bl true) H2
theorem ok_law (T : TX K mg) : FnOk P w K mg base CX0 8 T.f_law T.fd_law ["_law_script"] (sp_law K) := by
  refine T.F_law.ok sc_law (fun vs H Q E h => ?_) (fun cdv A outer s H vs Q E hr h => ?_)
  · obtain ⟨a, ns, rfl, _⟩ := h
    rfl
  · obtain ⟨a, ns, rfl, hS, hlen, k⟩ := h
    refine ⟨_, (pss_cons (ps_for PassesOwn.never rfl (pi_list (pe_op (r := rCatR K) op_catR (pe_lst (pa_cons (pe_call (ok_law_cell_at T) (hr.mono (by decide)) rfl T.m_law_cell_at T.F_law_cell_at.kp T.b_law_cell_at .nil pass0 (pa_cons (pv 0) (pa_cons pe_int pa_nil))) pa_nil)) (pe_slice sl_list (pv 0) (po_some pe_int) (po_some pe_int)))) (pg_name (i := 1) sc_law.nd rfl (Or.inl rfl)) (pss_cons (ps_set (i := 2) sc_law.nd rfl (Or.inl rfl) (pe_call (ok_law_source T) (hr.mono (by decide)) rfl T.m_law_source T.F_law_source.kp T.b_law_source .nil pass0 (pa_cons (pv 1) pa_nil))) (pss_one (ps_for PassesOwn.never rfl (pi_range1 rfl T.z_range (pa_cons pe_int pa_nil)) (pg_name (i := 3) sc_law.nd rfl (Or.inl rfl)) (pss_cons (ps_asg (pe_call (ok_law_scene T) (hr.mono (by decide)) rfl T.m_law_scene T.F_law_scene.kp T.b_law_scene .nil pass0 (pa_cons (pv 2) pa_nil)) (pg_tup rfl (pgs_cons (pg_name (i := 4) sc_law.nd rfl (Or.inl rfl)) (pgs_cons (pg_name (i := 5) sc_law.nd rfl (Or.inl rfl)) (pgs_cons (pg_name (i := 6) sc_law.nd rfl (Or.inl rfl)) (pgs_cons (pg_name (i := 7) sc_law.nd rfl (Or.inl rfl)) pgs_nil)))))) (pss_one (ps_if (pt_not (pt_val (pe_call (ok_law_right T) hr rfl T.m_law_right T.F_law_right.kp T.b_law_right .nil pass0 (pa_cons (pv 4) (pa_cons (pv 5) (pa_cons (pv 6) (pa_cons (pv 7) pa_nil))))))) (pss_one (ps_ret pe_bl)) pss_nil))))))) (pss_one (ps_ret pe_bl))), ?_⟩
    refine ⟨_, rfl, a, ns, 0, rfl, hS, by decide, fun i0 => ⟨by show 1 ≤ sizeLine; decide, fun b hb => ?_⟩⟩
    have e1 := exn (o := .lst [.int i0]) hb
    refine ⟨_, rfl, 1, rfl, 8, rfl, a, _, rfl, Evl.ex_l e1 hS, fun c hc => ?_⟩
    obtain ⟨ms, em⟩ := cut_map ns (some 1) (some 8)
    have ml : (ms.map V.int).length ≤ 63 := by
      rw [← em]
      exact Nat.le_trans (cut_len _ _ _) (by rw [List.length_map]; exact hlen)
    rw [em] at *
    refine ⟨b, c, _, _, rfl, rfl, SqL.of (exn hc _ _ upd_same), SqL.of upd_same, ?_, fun d hd => ?_⟩
    · exact Nat.le_trans (show 1 + _ ≤ 64 by omega) (by decide)
    refine ⟨d, rfl, ⟨_, SqL.of upd_same⟩, ?_⟩
    refine for_it (walk_list (xs := (i0 :: ms).map V.int)) (fun i σ H => (∃ y1 y2 y3 y4 y5 y6 y7, σ = [some (.ref a), y1, y2, y3, y4, y5, y6, y7]) ∧ H d = some (.lst ((i0 :: ms).map V.int))) ⟨⟨_, _, _, _, _, _, _, rfl⟩, upd_same⟩ (fun i σ H _ p => SqL.of p.2) ?_ (fun σ H p => k _)
    rintro i x σ _ H1 hi ⟨⟨y1, y2, y3, y4, y5, y6, y7, rfl⟩, hd1⟩ ⟨rfl, hx⟩
    obtain ⟨n, _, rfl⟩ := map_get hx
    refine ⟨_, rfl, _, rfl, fun H2 s e2 hs src => ?_⟩
    have nd : d ≠ s := ne_of_none hd1 hs
    refine ⟨3, rfl, by decide, by decide, ?_⟩
    refine for_it walk_range (fun j σ H => (∃ y1 y3 y4 y5 y6 y7, σ = [some (.ref a), y1, some (.ref s), y3, y4, y5, y6, y7]) ∧ H d = some (.lst ((i0 :: ms).map V.int)) ∧ Sr5 H s (1000 - 36 * j)) ⟨⟨_, _, _, _, _, _, rfl⟩, e2 _ _ hd1, src.less (by decide)⟩ (fun _ _ _ _ _ => True.intro) ?_ (fun σ H ⟨⟨_, _, _, _, _, _, e⟩, q, _⟩ => ⟨⟨_, _, _, _, _, _, _, e⟩, q⟩)
    rintro j x σ _ H3 hj ⟨⟨y1, y3, y4, y5, y6, y7, rfl⟩, hd3, sr3⟩ ⟨rfl, rfl⟩
    have hj3 : j < 3 := hj
    refine ⟨_, rfl, s, 1000 - 36 * (j + 1), rfl, sr3.less (by omega), fun n a b p q H4 n2 a0 a1 b0 b1 p0 p1 ab hq xb sr4 => ?_⟩
    refine ⟨q, _, rfl, SqT.of hq, rfl, _, _, rfl, _, _, rfl, _, _, rfl, _, _, rfl, rfl, ?_⟩
    refine ⟨_, rfl, _, rfl, _, rfl, _, rfl, n, a, b, p, rfl, n2, a0, a1, b0, b1, p0, p1, ab, fun H5 e5 => ⟨_, rfl, ?_⟩⟩
    exact ⟨⟨_, _, _, _, _, _, rfl⟩, e5 _ _ (xb _ _ nd hd3), sr4.mono e5⟩
end

theorem all_mk {K : PySem.W.Frag} {h : Heap} {mg : Str → Option Value} (X : K.In h) (G : h.Ns mainGlobals mg)
    {f0 f1 f2 f3 f4 f5 f6 f7 f8 f9 f10 f11 f12 f13 f14 f15 f16 f17 f18 f19 f20 f21 : Addr}
    {od0 an0 od1 an1 od2 an2 od3 an3 od4 an4 od5 an5 od6 an6 od7 an7 od8 an8 od9 an9 od10 an10 od11 an11 od12 an12 od13 an13 od14 an14 od15 an15 od16 an16 od17 an17 od18 an18 od19 an19 od20 an20 od21 an21 : Option Addr} {sl0 sl1 sl2 sl3 sl4 sl5 sl6 sl7 sl8 sl9 sl10 sl11 sl12 sl13 sl14 sl15 sl16 sl17 sl18 sl19 sl20 sl21 : Array (Option Value)} {oc0 kV0 dc0 pm0 cd0 ct0 oc1 kV1 dc1 pm1 cd1 ct1 oc2 kV2 dc2 pm2 cd2 ct2 oc3 kV3 dc3 pm3 cd3 ct3 oc4 kV4 dc4 pm4 cd4 ct4 oc5 kV5 dc5 pm5 cd5 ct5 oc6 kV6 dc6 pm6 cd6 ct6 oc7 kV7 dc7 pm7 cd7 ct7 oc8 kV8 dc8 pm8 cd8 ct8 oc9 kV9 dc9 pm9 cd9 ct9 oc10 kV10 dc10 pm10 cd10 ct10 oc11 kV11 dc11 pm11 cd11 ct11 oc12 kV12 dc12 pm12 cd12 ct12 oc13 kV13 dc13 pm13 cd13 ct13 oc14 kV14 dc14 pm14 cd14 ct14 oc15 kV15 dc15 pm15 cd15 ct15 oc16 kV16 dc16 pm16 cd16 ct16 oc17 kV17 dc17 pm17 cd17 ct17 oc18 kV18 dc18 pm18 cd18 ct18 oc19 kV19 dc19 pm19 cd19 ct19 oc20 kV20 dc20 pm20 cd20 ct20 oc21 kV21 dc21 pm21 cd21 ct21 : Value}
    (a0 : PySem.W.nsIn K mainGlobals "is_integer" = some (some (.ref f0)))
    (l0 : K.lookup f0 = some ⟨oc0, od0, .func (PySem.W.fnOf "is_integer" "is_integer" (defArgs s_is_integer) (defBody s_is_integer) (defScope s_is_integer) .none kV0 dc0 pm0 an0 cd0 ct0), sl0⟩)
    (c0 : PySem.W.codeIn K cd0 "is_integer" = true)
    (k0 : PySem.W.keepIn K (.ref f0) = true)
    (a1 : PySem.W.nsIn K mainGlobals "is_at_least" = some (some (.ref f1)))
    (l1 : K.lookup f1 = some ⟨oc1, od1, .func (PySem.W.fnOf "is_at_least" "is_at_least" (defArgs s_is_at_least) (defBody s_is_at_least) (defScope s_is_at_least) .none kV1 dc1 pm1 an1 cd1 ct1), sl1⟩)
    (c1 : PySem.W.codeIn K cd1 "is_at_least" = true)
    (k1 : PySem.W.keepIn K (.ref f1) = true)
    (a2 : PySem.W.nsIn K mainGlobals "is_between" = some (some (.ref f2)))
    (l2 : K.lookup f2 = some ⟨oc2, od2, .func (PySem.W.fnOf "is_between" "is_between" (defArgs s_is_between) (defBody s_is_between) (defScope s_is_between) .none kV2 dc2 pm2 an2 cd2 ct2), sl2⟩)
    (c2 : PySem.W.codeIn K cd2 "is_between" = true)
    (k2 : PySem.W.keepIn K (.ref f2) = true)
    (a3 : PySem.W.nsIn K mainGlobals "require_at_least" = some (some (.ref f3)))
    (l3 : K.lookup f3 = some ⟨oc3, od3, .func (PySem.W.fnOf "require_at_least" "require_at_least" (defArgs s_require_at_least) (defBody s_require_at_least) (defScope s_require_at_least) .none kV3 dc3 pm3 an3 cd3 ct3), sl3⟩)
    (c3 : PySem.W.codeIn K cd3 "require_at_least" = true)
    (k3 : PySem.W.keepIn K (.ref f3) = true)
    (a4 : PySem.W.nsIn K mainGlobals "greatest_common_divisor" = some (some (.ref f4)))
    (l4 : K.lookup f4 = some ⟨oc4, od4, .func (PySem.W.fnOf "greatest_common_divisor" "greatest_common_divisor" (defArgs s_greatest_common_divisor) (defBody s_greatest_common_divisor) (defScope s_greatest_common_divisor) .none kV4 dc4 pm4 an4 cd4 ct4), sl4⟩)
    (c4 : PySem.W.codeIn K cd4 "greatest_common_divisor" = true)
    (k4 : PySem.W.keepIn K (.ref f4) = true)
    (a5 : PySem.W.nsIn K mainGlobals "odd_part" = some (some (.ref f5)))
    (l5 : K.lookup f5 = some ⟨oc5, od5, .func (PySem.W.fnOf "odd_part" "odd_part" (defArgs s_odd_part) (defBody s_odd_part) (defScope s_odd_part) .none kV5 dc5 pm5 an5 cd5 ct5), sl5⟩)
    (c5 : PySem.W.codeIn K cd5 "odd_part" = true)
    (k5 : PySem.W.keepIn K (.ref f5) = true)
    (a6 : PySem.W.nsIn K mainGlobals "require_place" = some (some (.ref f6)))
    (l6 : K.lookup f6 = some ⟨oc6, od6, .func (PySem.W.fnOf "require_place" "require_place" (defArgs s_require_place) (defBody s_require_place) (defScope s_require_place) .none kV6 dc6 pm6 an6 cd6 ct6), sl6⟩)
    (c6 : PySem.W.codeIn K cd6 "require_place" = true)
    (k6 : PySem.W.keepIn K (.ref f6) = true)
    (a7 : PySem.W.nsIn K mainGlobals "inverse" = some (some (.ref f7)))
    (l7 : K.lookup f7 = some ⟨oc7, od7, .func (PySem.W.fnOf "inverse" "inverse" (defArgs s_inverse) (defBody s_inverse) (defScope s_inverse) .none kV7 dc7 pm7 an7 cd7 ct7), sl7⟩)
    (c7 : PySem.W.codeIn K cd7 "inverse" = true)
    (k7 : PySem.W.keepIn K (.ref f7) = true)
    (a8 : PySem.W.nsIn K mainGlobals "require_two" = some (some (.ref f8)))
    (l8 : K.lookup f8 = some ⟨oc8, od8, .func (PySem.W.fnOf "require_two" "require_two" (defArgs s_require_two) (defBody s_require_two) (defScope s_require_two) .none kV8 dc8 pm8 an8 cd8 ct8), sl8⟩)
    (c8 : PySem.W.codeIn K cd8 "require_two" = true)
    (k8 : PySem.W.keepIn K (.ref f8) = true)
    (a9 : PySem.W.nsIn K mainGlobals "two_target_sum" = some (some (.ref f9)))
    (l9 : K.lookup f9 = some ⟨oc9, od9, .func (PySem.W.fnOf "two_target_sum" "two_target_sum" (defArgs s_two_target_sum) (defBody s_two_target_sum) (defScope s_two_target_sum) .none kV9 dc9 pm9 an9 cd9 ct9), sl9⟩)
    (c9 : PySem.W.codeIn K cd9 "two_target_sum" = true)
    (k9 : PySem.W.keepIn K (.ref f9) = true)
    (a10 : PySem.W.nsIn K mainGlobals "min_calls_two" = some (some (.ref f10)))
    (l10 : K.lookup f10 = some ⟨oc10, od10, .func (PySem.W.fnOf "min_calls_two" "min_calls_two" (defArgs s_min_calls_two) (defBody s_min_calls_two) (defScope s_min_calls_two) .none kV10 dc10 pm10 an10 cd10 ct10), sl10⟩)
    (c10 : PySem.W.codeIn K cd10 "min_calls_two" = true)
    (k10 : PySem.W.keepIn K (.ref f10) = true)
    (a11 : PySem.W.nsIn K mainGlobals "_law_cell_at" = some (some (.ref f11)))
    (l11 : K.lookup f11 = some ⟨oc11, od11, .func (PySem.W.fnOf "_law_cell_at" "_law_cell_at" (defArgs s_law_cell_at) (defBody s_law_cell_at) (defScope s_law_cell_at) .none kV11 dc11 pm11 an11 cd11 ct11), sl11⟩)
    (c11 : PySem.W.codeIn K cd11 "_law_cell_at" = true)
    (k11 : PySem.W.keepIn K (.ref f11) = true)
    (a12 : PySem.W.nsIn K mainGlobals "_law_source" = some (some (.ref f12)))
    (l12 : K.lookup f12 = some ⟨oc12, od12, .func (PySem.W.fnOf "_law_source" "_law_source" (defArgs s_law_source) (defBody s_law_source) (defScope s_law_source) .none kV12 dc12 pm12 an12 cd12 ct12), sl12⟩)
    (c12 : PySem.W.codeIn K cd12 "_law_source" = true)
    (k12 : PySem.W.keepIn K (.ref f12) = true)
    (a13 : PySem.W.nsIn K mainGlobals "_law_take" = some (some (.ref f13)))
    (l13 : K.lookup f13 = some ⟨oc13, od13, .func (PySem.W.fnOf "_law_take" "_law_take" (defArgs s_law_take) (defBody s_law_take) (defScope s_law_take) .none kV13 dc13 pm13 an13 cd13 ct13), sl13⟩)
    (c13 : PySem.W.codeIn K cd13 "_law_take" = true)
    (k13 : PySem.W.keepIn K (.ref f13) = true)
    (a14 : PySem.W.nsIn K mainGlobals "_law_large" = some (some (.ref f14)))
    (l14 : K.lookup f14 = some ⟨oc14, od14, .func (PySem.W.fnOf "_law_large" "_law_large" (defArgs s_law_large) (defBody s_law_large) (defScope s_law_large) .none kV14 dc14 pm14 an14 cd14 ct14), sl14⟩)
    (c14 : PySem.W.codeIn K cd14 "_law_large" = true)
    (k14 : PySem.W.keepIn K (.ref f14) = true)
    (a15 : PySem.W.nsIn K mainGlobals "_law_gcd" = some (some (.ref f15)))
    (l15 : K.lookup f15 = some ⟨oc15, od15, .func (PySem.W.fnOf "_law_gcd" "_law_gcd" (defArgs s_law_gcd) (defBody s_law_gcd) (defScope s_law_gcd) .none kV15 dc15 pm15 an15 cd15 ct15), sl15⟩)
    (c15 : PySem.W.codeIn K cd15 "_law_gcd" = true)
    (k15 : PySem.W.keepIn K (.ref f15) = true)
    (a16 : PySem.W.nsIn K mainGlobals "_law_inverse" = some (some (.ref f16)))
    (l16 : K.lookup f16 = some ⟨oc16, od16, .func (PySem.W.fnOf "_law_inverse" "_law_inverse" (defArgs s_law_inverse) (defBody s_law_inverse) (defScope s_law_inverse) .none kV16 dc16 pm16 an16 cd16 ct16), sl16⟩)
    (c16 : PySem.W.codeIn K cd16 "_law_inverse" = true)
    (k16 : PySem.W.keepIn K (.ref f16) = true)
    (a17 : PySem.W.nsIn K mainGlobals "_law_count" = some (some (.ref f17)))
    (l17 : K.lookup f17 = some ⟨oc17, od17, .func (PySem.W.fnOf "_law_count" "_law_count" (defArgs s_law_count) (defBody s_law_count) (defScope s_law_count) .none kV17 dc17 pm17 an17 cd17 ct17), sl17⟩)
    (c17 : PySem.W.codeIn K cd17 "_law_count" = true)
    (k17 : PySem.W.keepIn K (.ref f17) = true)
    (a18 : PySem.W.nsIn K mainGlobals "_law_ring" = some (some (.ref f18)))
    (l18 : K.lookup f18 = some ⟨oc18, od18, .func (PySem.W.fnOf "_law_ring" "_law_ring" (defArgs s_law_ring) (defBody s_law_ring) (defScope s_law_ring) .none kV18 dc18 pm18 an18 cd18 ct18), sl18⟩)
    (c18 : PySem.W.codeIn K cd18 "_law_ring" = true)
    (k18 : PySem.W.keepIn K (.ref f18) = true)
    (a19 : PySem.W.nsIn K mainGlobals "_law_scene" = some (some (.ref f19)))
    (l19 : K.lookup f19 = some ⟨oc19, od19, .func (PySem.W.fnOf "_law_scene" "_law_scene" (defArgs s_law_scene) (defBody s_law_scene) (defScope s_law_scene) .none kV19 dc19 pm19 an19 cd19 ct19), sl19⟩)
    (c19 : PySem.W.codeIn K cd19 "_law_scene" = true)
    (k19 : PySem.W.keepIn K (.ref f19) = true)
    (a20 : PySem.W.nsIn K mainGlobals "_law_right" = some (some (.ref f20)))
    (l20 : K.lookup f20 = some ⟨oc20, od20, .func (PySem.W.fnOf "_law_right" "_law_right" (defArgs s_law_right) (defBody s_law_right) (defScope s_law_right) .none kV20 dc20 pm20 an20 cd20 ct20), sl20⟩)
    (c20 : PySem.W.codeIn K cd20 "_law_right" = true)
    (k20 : PySem.W.keepIn K (.ref f20) = true)
    (a21 : PySem.W.nsIn K mainGlobals "law" = some (some (.ref f21)))
    (l21 : K.lookup f21 = some ⟨oc21, od21, .func (PySem.W.fnOf "law" "law" (defArgs s_law) (defBody s_law) (defScope s_law) .none kV21 dc21 pm21 an21 cd21 ct21), sl21⟩)
    (c21 : PySem.W.codeIn K cd21 "law" = true)
    (k21 : PySem.W.keepIn K (.ref f21) = true)
    (z_abs : PySem.W.nsIn K mainGlobals "abs" = some none)
    (z_bool : PySem.W.nsIn K mainGlobals "bool" = some none)
    (z_int : PySem.W.nsIn K mainGlobals "int" = some none)
    (z_isinstance : PySem.W.nsIn K mainGlobals "isinstance" = some none)
    (z_len : PySem.W.nsIn K mainGlobals "len" = some none)
    (z_range : PySem.W.nsIn K mainGlobals "range" = some none)
    : ∃ T : TX K mg, T.f_law = f21 ∧ T.fd_law = PySem.W.fnOf "law" "law" (defArgs s_law) (defBody s_law) (defScope s_law) .none kV21 dc21 pm21 an21 cd21 ct21 := by
  have F0 := fun_mk (st := s_is_integer) l0 c0 k0
  have b0 := F0.binds (ps := ["value"]) fun _ _ _ _ _ _ us hl => match us, hl with | [_], _ => rfl
  have F1 := fun_mk (st := s_is_at_least) l1 c1 k1
  have b1 := F1.binds (ps := ["value", "low"]) fun _ _ _ _ _ _ us hl => match us, hl with | [_, _], _ => rfl
  have F2 := fun_mk (st := s_is_between) l2 c2 k2
  have b2 := F2.binds (ps := ["value", "low", "high"]) fun _ _ _ _ _ _ us hl => match us, hl with | [_, _, _], _ => rfl
  have F3 := fun_mk (st := s_require_at_least) l3 c3 k3
  have b3 := F3.binds (ps := ["value", "low", "name"]) fun _ _ _ _ _ _ us hl => match us, hl with | [_, _, _], _ => rfl
  have F4 := fun_mk (st := s_greatest_common_divisor) l4 c4 k4
  have b4 := F4.binds (ps := ["first", "second"]) fun _ _ _ _ _ _ us hl => match us, hl with | [_, _], _ => rfl
  have F5 := fun_mk (st := s_odd_part) l5 c5 k5
  have b5 := F5.binds (ps := ["number"]) fun _ _ _ _ _ _ us hl => match us, hl with | [_], _ => rfl
  have F6 := fun_mk (st := s_require_place) l6 c6 k6
  have b6 := F6.binds (ps := ["size", "place", "name"]) fun _ _ _ _ _ _ us hl => match us, hl with | [_, _, _], _ => rfl
  have F7 := fun_mk (st := s_inverse) l7 c7 k7
  have b7 := F7.binds (ps := ["number", "modulus"]) fun _ _ _ _ _ _ us hl => match us, hl with | [_, _], _ => rfl
  have F8 := fun_mk (st := s_require_two) l8 c8 k8
  have b8 := F8.binds (ps := ["size", "first", "second", "place"]) fun _ _ _ _ _ _ us hl => match us, hl with | [_, _, _, _], _ => rfl
  have F9 := fun_mk (st := s_two_target_sum) l9 c9 k9
  have b9 := F9.binds (ps := ["size", "first", "second", "place"]) fun _ _ _ _ _ _ us hl => match us, hl with | [_, _, _, _], _ => rfl
  have F10 := fun_mk (st := s_min_calls_two) l10 c10 k10
  have b10 := F10.binds (ps := ["size", "first", "second", "place"]) fun _ _ _ _ _ _ us hl => match us, hl with | [_, _, _, _], _ => rfl
  have F11 := fun_mk (st := s_law_cell_at) l11 c11 k11
  have b11 := F11.binds (ps := ["_law_script", "_law_k"]) fun _ _ _ _ _ _ us hl => match us, hl with | [_, _], _ => rfl
  have F12 := fun_mk (st := s_law_source) l12 c12 k12
  have b12 := F12.binds (ps := ["_law_cell"]) fun _ _ _ _ _ _ us hl => match us, hl with | [_], _ => rfl
  have F13 := fun_mk (st := s_law_take) l13 c13 k13
  have b13 := F13.binds (ps := ["_law_source_here", "_law_bound"]) fun _ _ _ _ _ _ us hl => match us, hl with | [_, _], _ => rfl
  have F14 := fun_mk (st := s_law_large) l14 c14 k14
  have b14 := F14.binds (ps := ["_law_source_here", "_law_bound"]) fun _ _ _ _ _ _ us hl => match us, hl with | [_, _], _ => rfl
  have F15 := fun_mk (st := s_law_gcd) l15 c15 k15
  have b15 := F15.binds (ps := ["_law_a", "_law_b"]) fun _ _ _ _ _ _ us hl => match us, hl with | [_, _], _ => rfl
  have F16 := fun_mk (st := s_law_inverse) l16 c16 k16
  have b16 := F16.binds (ps := ["_law_number", "_law_modulus"]) fun _ _ _ _ _ _ us hl => match us, hl with | [_, _], _ => rfl
  have F17 := fun_mk (st := s_law_count) l17 c17 k17
  have b17 := F17.binds (ps := ["_law_ring_here", "_law_gap", "_law_away"]) fun _ _ _ _ _ _ us hl => match us, hl with | [_, _, _], _ => rfl
  have F18 := fun_mk (st := s_law_ring) l18 c18 k18
  have b18 := F18.binds (ps := ["_law_source_here"]) fun _ _ _ _ _ _ us hl => match us, hl with | [_], _ => rfl
  have F19 := fun_mk (st := s_law_scene) l19 c19 k19
  have b19 := F19.binds (ps := ["_law_source_here"]) fun _ _ _ _ _ _ us hl => match us, hl with | [_], _ => rfl
  have F20 := fun_mk (st := s_law_right) l20 c20 k20
  have b20 := F20.binds (ps := ["_law_ring_here", "_law_start", "_law_other", "_law_spot"]) fun _ _ _ _ _ _ us hl => match us, hl with | [_, _, _, _], _ => rfl
  have F21 := fun_mk (st := s_law) l21 c21 k21
  have b21 := F21.binds (ps := ["_law_script"]) fun _ _ _ _ _ _ us hl => match us, hl with | [_], _ => rfl
  exact ⟨{
    f_is_integer := f0, fd_is_integer := _, F_is_integer := F0, b_is_integer := b0, m_is_integer := PySem.W.mg_of X G a0,
    f_is_at_least := f1, fd_is_at_least := _, F_is_at_least := F1, b_is_at_least := b1, m_is_at_least := PySem.W.mg_of X G a1,
    f_is_between := f2, fd_is_between := _, F_is_between := F2, b_is_between := b2, m_is_between := PySem.W.mg_of X G a2,
    f_require_at_least := f3, fd_require_at_least := _, F_require_at_least := F3, b_require_at_least := b3, m_require_at_least := PySem.W.mg_of X G a3,
    f_greatest_common_divisor := f4, fd_greatest_common_divisor := _, F_greatest_common_divisor := F4, b_greatest_common_divisor := b4, m_greatest_common_divisor := PySem.W.mg_of X G a4,
    f_odd_part := f5, fd_odd_part := _, F_odd_part := F5, b_odd_part := b5, m_odd_part := PySem.W.mg_of X G a5,
    f_require_place := f6, fd_require_place := _, F_require_place := F6, b_require_place := b6, m_require_place := PySem.W.mg_of X G a6,
    f_inverse := f7, fd_inverse := _, F_inverse := F7, b_inverse := b7, m_inverse := PySem.W.mg_of X G a7,
    f_require_two := f8, fd_require_two := _, F_require_two := F8, b_require_two := b8, m_require_two := PySem.W.mg_of X G a8,
    f_two_target_sum := f9, fd_two_target_sum := _, F_two_target_sum := F9, b_two_target_sum := b9, m_two_target_sum := PySem.W.mg_of X G a9,
    f_min_calls_two := f10, fd_min_calls_two := _, F_min_calls_two := F10, b_min_calls_two := b10, m_min_calls_two := PySem.W.mg_of X G a10,
    f_law_cell_at := f11, fd_law_cell_at := _, F_law_cell_at := F11, b_law_cell_at := b11, m_law_cell_at := PySem.W.mg_of X G a11,
    f_law_source := f12, fd_law_source := _, F_law_source := F12, b_law_source := b12, m_law_source := PySem.W.mg_of X G a12,
    f_law_take := f13, fd_law_take := _, F_law_take := F13, b_law_take := b13, m_law_take := PySem.W.mg_of X G a13,
    f_law_large := f14, fd_law_large := _, F_law_large := F14, b_law_large := b14, m_law_large := PySem.W.mg_of X G a14,
    f_law_gcd := f15, fd_law_gcd := _, F_law_gcd := F15, b_law_gcd := b15, m_law_gcd := PySem.W.mg_of X G a15,
    f_law_inverse := f16, fd_law_inverse := _, F_law_inverse := F16, b_law_inverse := b16, m_law_inverse := PySem.W.mg_of X G a16,
    f_law_count := f17, fd_law_count := _, F_law_count := F17, b_law_count := b17, m_law_count := PySem.W.mg_of X G a17,
    f_law_ring := f18, fd_law_ring := _, F_law_ring := F18, b_law_ring := b18, m_law_ring := PySem.W.mg_of X G a18,
    f_law_scene := f19, fd_law_scene := _, F_law_scene := F19, b_law_scene := b19, m_law_scene := PySem.W.mg_of X G a19,
    f_law_right := f20, fd_law_right := _, F_law_right := F20, b_law_right := b20, m_law_right := PySem.W.mg_of X G a20,
    f_law := f21, fd_law := _, F_law := F21, b_law := b21, m_law := PySem.W.mg_of X G a21,
    z_abs := PySem.W.mg_none_of X G z_abs,
    z_bool := PySem.W.mg_none_of X G z_bool,
    z_int := PySem.W.mg_none_of X G z_int,
    z_isinstance := PySem.W.mg_none_of X G z_isinstance,
    z_len := PySem.W.mg_none_of X G z_len,
    z_range := PySem.W.mg_none_of X G z_range
  }, rfl, rfl⟩
theorem use_mk {K : PySem.W.Frag} {h : Heap} {mg : Str → Option Value} (X : K.In h) (G : h.Ns mainGlobals mg)
    {f0 f1 f2 f3 f4 f5 f6 f7 f8 f9 f10 f11 f12 f13 f14 f15 f16 f17 f18 f19 f20 f21 : Addr}
    {od0 an0 od1 an1 od2 an2 od3 an3 od4 an4 od5 an5 od6 an6 od7 an7 od8 an8 od9 an9 od10 an10 od11 an11 od12 an12 od13 an13 od14 an14 od15 an15 od16 an16 od17 an17 od18 an18 od19 an19 od20 an20 od21 an21 : Option Addr} {sl0 sl1 sl2 sl3 sl4 sl5 sl6 sl7 sl8 sl9 sl10 sl11 sl12 sl13 sl14 sl15 sl16 sl17 sl18 sl19 sl20 sl21 : Array (Option Value)} {oc0 kV0 dc0 pm0 cd0 ct0 oc1 kV1 dc1 pm1 cd1 ct1 oc2 kV2 dc2 pm2 cd2 ct2 oc3 kV3 dc3 pm3 cd3 ct3 oc4 kV4 dc4 pm4 cd4 ct4 oc5 kV5 dc5 pm5 cd5 ct5 oc6 kV6 dc6 pm6 cd6 ct6 oc7 kV7 dc7 pm7 cd7 ct7 oc8 kV8 dc8 pm8 cd8 ct8 oc9 kV9 dc9 pm9 cd9 ct9 oc10 kV10 dc10 pm10 cd10 ct10 oc11 kV11 dc11 pm11 cd11 ct11 oc12 kV12 dc12 pm12 cd12 ct12 oc13 kV13 dc13 pm13 cd13 ct13 oc14 kV14 dc14 pm14 cd14 ct14 oc15 kV15 dc15 pm15 cd15 ct15 oc16 kV16 dc16 pm16 cd16 ct16 oc17 kV17 dc17 pm17 cd17 ct17 oc18 kV18 dc18 pm18 cd18 ct18 oc19 kV19 dc19 pm19 cd19 ct19 oc20 kV20 dc20 pm20 cd20 ct20 oc21 kV21 dc21 pm21 cd21 ct21 : Value}
    (a0 : PySem.W.nsIn K mainGlobals "is_integer" = some (some (.ref f0)))
    (l0 : K.lookup f0 = some ⟨oc0, od0, .func (PySem.W.fnOf "is_integer" "is_integer" (defArgs s_is_integer) (defBody s_is_integer) (defScope s_is_integer) .none kV0 dc0 pm0 an0 cd0 ct0), sl0⟩)
    (c0 : PySem.W.codeIn K cd0 "is_integer" = true)
    (k0 : PySem.W.keepIn K (.ref f0) = true)
    (a1 : PySem.W.nsIn K mainGlobals "is_at_least" = some (some (.ref f1)))
    (l1 : K.lookup f1 = some ⟨oc1, od1, .func (PySem.W.fnOf "is_at_least" "is_at_least" (defArgs s_is_at_least) (defBody s_is_at_least) (defScope s_is_at_least) .none kV1 dc1 pm1 an1 cd1 ct1), sl1⟩)
    (c1 : PySem.W.codeIn K cd1 "is_at_least" = true)
    (k1 : PySem.W.keepIn K (.ref f1) = true)
    (a2 : PySem.W.nsIn K mainGlobals "is_between" = some (some (.ref f2)))
    (l2 : K.lookup f2 = some ⟨oc2, od2, .func (PySem.W.fnOf "is_between" "is_between" (defArgs s_is_between) (defBody s_is_between) (defScope s_is_between) .none kV2 dc2 pm2 an2 cd2 ct2), sl2⟩)
    (c2 : PySem.W.codeIn K cd2 "is_between" = true)
    (k2 : PySem.W.keepIn K (.ref f2) = true)
    (a3 : PySem.W.nsIn K mainGlobals "require_at_least" = some (some (.ref f3)))
    (l3 : K.lookup f3 = some ⟨oc3, od3, .func (PySem.W.fnOf "require_at_least" "require_at_least" (defArgs s_require_at_least) (defBody s_require_at_least) (defScope s_require_at_least) .none kV3 dc3 pm3 an3 cd3 ct3), sl3⟩)
    (c3 : PySem.W.codeIn K cd3 "require_at_least" = true)
    (k3 : PySem.W.keepIn K (.ref f3) = true)
    (a4 : PySem.W.nsIn K mainGlobals "greatest_common_divisor" = some (some (.ref f4)))
    (l4 : K.lookup f4 = some ⟨oc4, od4, .func (PySem.W.fnOf "greatest_common_divisor" "greatest_common_divisor" (defArgs s_greatest_common_divisor) (defBody s_greatest_common_divisor) (defScope s_greatest_common_divisor) .none kV4 dc4 pm4 an4 cd4 ct4), sl4⟩)
    (c4 : PySem.W.codeIn K cd4 "greatest_common_divisor" = true)
    (k4 : PySem.W.keepIn K (.ref f4) = true)
    (a5 : PySem.W.nsIn K mainGlobals "odd_part" = some (some (.ref f5)))
    (l5 : K.lookup f5 = some ⟨oc5, od5, .func (PySem.W.fnOf "odd_part" "odd_part" (defArgs s_odd_part) (defBody s_odd_part) (defScope s_odd_part) .none kV5 dc5 pm5 an5 cd5 ct5), sl5⟩)
    (c5 : PySem.W.codeIn K cd5 "odd_part" = true)
    (k5 : PySem.W.keepIn K (.ref f5) = true)
    (a6 : PySem.W.nsIn K mainGlobals "require_place" = some (some (.ref f6)))
    (l6 : K.lookup f6 = some ⟨oc6, od6, .func (PySem.W.fnOf "require_place" "require_place" (defArgs s_require_place) (defBody s_require_place) (defScope s_require_place) .none kV6 dc6 pm6 an6 cd6 ct6), sl6⟩)
    (c6 : PySem.W.codeIn K cd6 "require_place" = true)
    (k6 : PySem.W.keepIn K (.ref f6) = true)
    (a7 : PySem.W.nsIn K mainGlobals "inverse" = some (some (.ref f7)))
    (l7 : K.lookup f7 = some ⟨oc7, od7, .func (PySem.W.fnOf "inverse" "inverse" (defArgs s_inverse) (defBody s_inverse) (defScope s_inverse) .none kV7 dc7 pm7 an7 cd7 ct7), sl7⟩)
    (c7 : PySem.W.codeIn K cd7 "inverse" = true)
    (k7 : PySem.W.keepIn K (.ref f7) = true)
    (a8 : PySem.W.nsIn K mainGlobals "require_two" = some (some (.ref f8)))
    (l8 : K.lookup f8 = some ⟨oc8, od8, .func (PySem.W.fnOf "require_two" "require_two" (defArgs s_require_two) (defBody s_require_two) (defScope s_require_two) .none kV8 dc8 pm8 an8 cd8 ct8), sl8⟩)
    (c8 : PySem.W.codeIn K cd8 "require_two" = true)
    (k8 : PySem.W.keepIn K (.ref f8) = true)
    (a9 : PySem.W.nsIn K mainGlobals "two_target_sum" = some (some (.ref f9)))
    (l9 : K.lookup f9 = some ⟨oc9, od9, .func (PySem.W.fnOf "two_target_sum" "two_target_sum" (defArgs s_two_target_sum) (defBody s_two_target_sum) (defScope s_two_target_sum) .none kV9 dc9 pm9 an9 cd9 ct9), sl9⟩)
    (c9 : PySem.W.codeIn K cd9 "two_target_sum" = true)
    (k9 : PySem.W.keepIn K (.ref f9) = true)
    (a10 : PySem.W.nsIn K mainGlobals "min_calls_two" = some (some (.ref f10)))
    (l10 : K.lookup f10 = some ⟨oc10, od10, .func (PySem.W.fnOf "min_calls_two" "min_calls_two" (defArgs s_min_calls_two) (defBody s_min_calls_two) (defScope s_min_calls_two) .none kV10 dc10 pm10 an10 cd10 ct10), sl10⟩)
    (c10 : PySem.W.codeIn K cd10 "min_calls_two" = true)
    (k10 : PySem.W.keepIn K (.ref f10) = true)
    (a11 : PySem.W.nsIn K mainGlobals "_law_cell_at" = some (some (.ref f11)))
    (l11 : K.lookup f11 = some ⟨oc11, od11, .func (PySem.W.fnOf "_law_cell_at" "_law_cell_at" (defArgs s_law_cell_at) (defBody s_law_cell_at) (defScope s_law_cell_at) .none kV11 dc11 pm11 an11 cd11 ct11), sl11⟩)
    (c11 : PySem.W.codeIn K cd11 "_law_cell_at" = true)
    (k11 : PySem.W.keepIn K (.ref f11) = true)
    (a12 : PySem.W.nsIn K mainGlobals "_law_source" = some (some (.ref f12)))
    (l12 : K.lookup f12 = some ⟨oc12, od12, .func (PySem.W.fnOf "_law_source" "_law_source" (defArgs s_law_source) (defBody s_law_source) (defScope s_law_source) .none kV12 dc12 pm12 an12 cd12 ct12), sl12⟩)
    (c12 : PySem.W.codeIn K cd12 "_law_source" = true)
    (k12 : PySem.W.keepIn K (.ref f12) = true)
    (a13 : PySem.W.nsIn K mainGlobals "_law_take" = some (some (.ref f13)))
    (l13 : K.lookup f13 = some ⟨oc13, od13, .func (PySem.W.fnOf "_law_take" "_law_take" (defArgs s_law_take) (defBody s_law_take) (defScope s_law_take) .none kV13 dc13 pm13 an13 cd13 ct13), sl13⟩)
    (c13 : PySem.W.codeIn K cd13 "_law_take" = true)
    (k13 : PySem.W.keepIn K (.ref f13) = true)
    (a14 : PySem.W.nsIn K mainGlobals "_law_large" = some (some (.ref f14)))
    (l14 : K.lookup f14 = some ⟨oc14, od14, .func (PySem.W.fnOf "_law_large" "_law_large" (defArgs s_law_large) (defBody s_law_large) (defScope s_law_large) .none kV14 dc14 pm14 an14 cd14 ct14), sl14⟩)
    (c14 : PySem.W.codeIn K cd14 "_law_large" = true)
    (k14 : PySem.W.keepIn K (.ref f14) = true)
    (a15 : PySem.W.nsIn K mainGlobals "_law_gcd" = some (some (.ref f15)))
    (l15 : K.lookup f15 = some ⟨oc15, od15, .func (PySem.W.fnOf "_law_gcd" "_law_gcd" (defArgs s_law_gcd) (defBody s_law_gcd) (defScope s_law_gcd) .none kV15 dc15 pm15 an15 cd15 ct15), sl15⟩)
    (c15 : PySem.W.codeIn K cd15 "_law_gcd" = true)
    (k15 : PySem.W.keepIn K (.ref f15) = true)
    (a16 : PySem.W.nsIn K mainGlobals "_law_inverse" = some (some (.ref f16)))
    (l16 : K.lookup f16 = some ⟨oc16, od16, .func (PySem.W.fnOf "_law_inverse" "_law_inverse" (defArgs s_law_inverse) (defBody s_law_inverse) (defScope s_law_inverse) .none kV16 dc16 pm16 an16 cd16 ct16), sl16⟩)
    (c16 : PySem.W.codeIn K cd16 "_law_inverse" = true)
    (k16 : PySem.W.keepIn K (.ref f16) = true)
    (a17 : PySem.W.nsIn K mainGlobals "_law_count" = some (some (.ref f17)))
    (l17 : K.lookup f17 = some ⟨oc17, od17, .func (PySem.W.fnOf "_law_count" "_law_count" (defArgs s_law_count) (defBody s_law_count) (defScope s_law_count) .none kV17 dc17 pm17 an17 cd17 ct17), sl17⟩)
    (c17 : PySem.W.codeIn K cd17 "_law_count" = true)
    (k17 : PySem.W.keepIn K (.ref f17) = true)
    (a18 : PySem.W.nsIn K mainGlobals "_law_ring" = some (some (.ref f18)))
    (l18 : K.lookup f18 = some ⟨oc18, od18, .func (PySem.W.fnOf "_law_ring" "_law_ring" (defArgs s_law_ring) (defBody s_law_ring) (defScope s_law_ring) .none kV18 dc18 pm18 an18 cd18 ct18), sl18⟩)
    (c18 : PySem.W.codeIn K cd18 "_law_ring" = true)
    (k18 : PySem.W.keepIn K (.ref f18) = true)
    (a19 : PySem.W.nsIn K mainGlobals "_law_scene" = some (some (.ref f19)))
    (l19 : K.lookup f19 = some ⟨oc19, od19, .func (PySem.W.fnOf "_law_scene" "_law_scene" (defArgs s_law_scene) (defBody s_law_scene) (defScope s_law_scene) .none kV19 dc19 pm19 an19 cd19 ct19), sl19⟩)
    (c19 : PySem.W.codeIn K cd19 "_law_scene" = true)
    (k19 : PySem.W.keepIn K (.ref f19) = true)
    (a20 : PySem.W.nsIn K mainGlobals "_law_right" = some (some (.ref f20)))
    (l20 : K.lookup f20 = some ⟨oc20, od20, .func (PySem.W.fnOf "_law_right" "_law_right" (defArgs s_law_right) (defBody s_law_right) (defScope s_law_right) .none kV20 dc20 pm20 an20 cd20 ct20), sl20⟩)
    (c20 : PySem.W.codeIn K cd20 "_law_right" = true)
    (k20 : PySem.W.keepIn K (.ref f20) = true)
    (a21 : PySem.W.nsIn K mainGlobals "law" = some (some (.ref f21)))
    (l21 : K.lookup f21 = some ⟨oc21, od21, .func (PySem.W.fnOf "law" "law" (defArgs s_law) (defBody s_law) (defScope s_law) .none kV21 dc21 pm21 an21 cd21 ct21), sl21⟩)
    (c21 : PySem.W.codeIn K cd21 "law" = true)
    (k21 : PySem.W.keepIn K (.ref f21) = true)
    (z_abs : PySem.W.nsIn K mainGlobals "abs" = some none)
    (z_bool : PySem.W.nsIn K mainGlobals "bool" = some none)
    (z_int : PySem.W.nsIn K mainGlobals "int" = some none)
    (z_isinstance : PySem.W.nsIn K mainGlobals "isinstance" = some none)
    (z_len : PySem.W.nsIn K mainGlobals "len" = some none)
    (z_range : PySem.W.nsIn K mainGlobals "range" = some none)
    : ∃ T : TX K mg, mg "law" = some (.ref T.f_law) ∧ ∀ (s : Shared) (v : Value), BindsTo s T.fd_law ⟨[v], []⟩ [("_law_script", v)] := by
  obtain ⟨T, h1, h2⟩ := all_mk X G a0 l0 c0 k0 a1 l1 c1 k1 a2 l2 c2 k2 a3 l3 c3 k3 a4 l4 c4 k4 a5 l5 c5 k5 a6 l6 c6 k6 a7 l7 c7 k7 a8 l8 c8 k8 a9 l9 c9 k9 a10 l10 c10 k10 a11 l11 c11 k11 a12 l12 c12 k12 a13 l13 c13 k13 a14 l14 c14 k14 a15 l15 c15 k15 a16 l16 c16 k16 a17 l17 c17 k17 a18 l18 c18 k18 a19 l19 c19 k19 a20 l20 c20 k20 a21 l21 c21 k21 z_abs z_bool z_int z_isinstance z_len z_range
  exact ⟨T, T.m_law, fun s v => by rw [h2]; exact .of_eq rfl⟩
end CS
open PySem PySem.W PyProof.Rows in
set_option maxRecDepth 100000 in
set_option maxHeartbeats 0 in
theorem PySem.Challenge.cw_calledseats_k52_two_targets_on_large_rin_holds : PySem.Challenge.rw_calledseats_k52_two_targets_on_large_rin.Holds := by
  w_on; o_law; k_head; (case hw => w_witness2)
  k_fill
  refine L2.walk_of (l := PySem.Challenge.rw_calledseats_k52_two_targets_on_large_rin) (n := 63) (k := 8) (x := "_law_script") (CX := fun _ => L2.CX0) (sp := fun w => CS.sp_law _) rfl (by decide) rfl ⟨rfl, by decide, by decide⟩ (fun w h Y => PySem.W.kIn_of Y) ?F (fun _ _ a ns hl _ hS => ⟨a, ns, rfl, hS, hl, fun _ => rfl⟩) (fun _ _ _ _ _ h => h)
  case F =>
    intro w mg fa h KX G hmg
    obtain ⟨T, e1, e2⟩ : ∃ T : CS.TX _ mg, mg "law" = some (.ref T.f_law) ∧ ∀ (s : Shared) (v : Value), BindsTo s T.fd_law ⟨[v], []⟩ [("_law_script", v)] := by
      refine' CS.use_mk KX G ?a0 ?l0 ?c0 ?k0 ?a1 ?l1 ?c1 ?k1 ?a2 ?l2 ?c2 ?k2 ?a3 ?l3 ?c3 ?k3 ?a4 ?l4 ?c4 ?k4 ?a5 ?l5 ?c5 ?k5 ?a6 ?l6 ?c6 ?k6 ?a7 ?l7 ?c7 ?k7 ?a8 ?l8 ?c8 ?k8 ?a9 ?l9 ?c9 ?k9 ?a10 ?l10 ?c10 ?k10 ?a11 ?l11 ?c11 ?k11 ?a12 ?l12 ?c12 ?k12 ?a13 ?l13 ?c13 ?k13 ?a14 ?l14 ?c14 ?k14 ?a15 ?l15 ?c15 ?k15 ?a16 ?l16 ?c16 ?k16 ?a17 ?l17 ?c17 ?k17 ?a18 ?l18 ?c18 ?k18 ?a19 ?l19 ?c19 ?k19 ?a20 ?l20 ?c20 ?k20 ?a21 ?l21 ?c21 ?k21 ?z_abs ?z_bool ?z_int ?z_isinstance ?z_len ?z_range
      (case a0 => k_is)
      (case l0 => k_is)
      (case c0 => k_is)
      (case k0 => k_is)
      (case a1 => k_is)
      (case l1 => k_is)
      (case c1 => k_is)
      (case k1 => k_is)
      (case a2 => k_is)
      (case l2 => k_is)
      (case c2 => k_is)
      (case k2 => k_is)
      (case a3 => k_is)
      (case l3 => k_is)
      (case c3 => k_is)
      (case k3 => k_is)
      (case a4 => k_is)
      (case l4 => k_is)
      (case c4 => k_is)
      (case k4 => k_is)
      (case a5 => k_is)
      (case l5 => k_is)
      (case c5 => k_is)
      (case k5 => k_is)
      (case a6 => k_is)
      (case l6 => k_is)
      (case c6 => k_is)
      (case k6 => k_is)
      (case a7 => k_is)
      (case l7 => k_is)
      (case c7 => k_is)
      (case k7 => k_is)
      (case a8 => k_is)
      (case l8 => k_is)
      (case c8 => k_is)
      (case k8 => k_is)
      (case a9 => k_is)
      (case l9 => k_is)
      (case c9 => k_is)
      (case k9 => k_is)
      (case a10 => k_is)
      (case l10 => k_is)
      (case c10 => k_is)
      (case k10 => k_is)
      (case a11 => k_is)
      (case l11 => k_is)
      (case c11 => k_is)
      (case k11 => k_is)
      (case a12 => k_is)
      (case l12 => k_is)
      (case c12 => k_is)
      (case k12 => k_is)
      (case a13 => k_is)
      (case l13 => k_is)
      (case c13 => k_is)
      (case k13 => k_is)
      (case a14 => k_is)
      (case l14 => k_is)
      (case c14 => k_is)
      (case k14 => k_is)
      (case a15 => k_is)
      (case l15 => k_is)
      (case c15 => k_is)
      (case k15 => k_is)
      (case a16 => k_is)
      (case l16 => k_is)
      (case c16 => k_is)
      (case k16 => k_is)
      (case a17 => k_is)
      (case l17 => k_is)
      (case c17 => k_is)
      (case k17 => k_is)
      (case a18 => k_is)
      (case l18 => k_is)
      (case c18 => k_is)
      (case k18 => k_is)
      (case a19 => k_is)
      (case l19 => k_is)
      (case c19 => k_is)
      (case k19 => k_is)
      (case a20 => k_is)
      (case l20 => k_is)
      (case c20 => k_is)
      (case k20 => k_is)
      (case a21 => k_is)
      (case l21 => k_is)
      (case c21 => k_is)
      (case k21 => k_is)
      (case z_abs => k_is)
      (case z_bool => k_is)
      (case z_int => k_is)
      (case z_isinstance => k_is)
      (case z_len => k_is)
      (case z_range => k_is)
    have e := hmg.symm.trans e1
    cases e
    exact ⟨T.fd_law, e2, fun base _ _ => CS.ok_law T⟩
