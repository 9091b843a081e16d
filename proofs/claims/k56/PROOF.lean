import PyProof.Rows.All
import Wide.All
import OpenK.AllK
import Wide.FinOn
import HandS.ForMost
import HandS.Zip
import HandS.TupAny
import HandS.TupMul
import HandS.Deep
import HandS.Style
import HandS.SetFor
import HandS.Strs
import HandS.Walk
import HandS.IsInst
import HandS.Conv
import HandS.Wide
import HandS.WideBits
import HandS.Evl
import HandS.MakeKwOnly
import KE.GoesMore
import KE.GoesEnumKw
import KE.KBits
import KE.KStateDown
import HandS.Head0
import HandS.Head1
import HandS.Head2
import HandS.More
import HandS.Defaults
import HandS.HeadEnd
import HandS.HeadHook1
import HandS.HeadHook2
import PySem.Challenge.RW_calledseats_k56_calls_from_sums
set_option Elab.async false
set_option linter.all false
set_option maxRecDepth 100000
set_option maxHeartbeats 4000000


namespace CZ
open PySem PySem.Spec PyProof.Rows L2
open PySem.Sem (wp)
/-- one draw of a zip: strict or not -/
def zdraw (b : Bool) (it : Value) : Sem (Option Value) := if b = true then Builtin.SmallTypes.nextOrEnd it else (Builtin.SmallTypes.nextOf it >>= fun x => pure (some x))
/-- a zip object: f0 what it has handed out, b its strictness -/
abbrev ZipO (h : Heap) (z TI TO : Addr) (f0 : Value) (b : Bool) : Prop := h.get? z = some { cls := .type "zip", data := .fields #[f0, .bool false, .bool b, .ref TI, .ref TO] }
abbrev TupO (h : Heap) (T : Addr) (vs : Array Value) : Prop := h.get? T = some { cls := .type "tuple", data := .seq vs }
theorem val_b (b : Bool) : (Value.bool b == Value.bool true) = b := by cases b <;> rfl
section
variable {prog : Program} {w : World} {A : Around} {E : Value → Shared → Prop} {s : Shared} {b : Bool}
theorem zdraw_item {it : Addr} {fp : List Addr} {n i : Nat} {P : Nat → Value → Prop} {St : Nat → Heap → Prop} {Q : Option Value → Shared → Prop} (D : Draws prog w A it fp n P St) (hi : i < n) (st : St i s.heap)
    (hQ : ∀ x h' tk, P i x → St (i + 1) h' → Heap.SameBut it s.heap h' → Q (some x) { s with heap := h', toks := tk }) : wpAny (model prog w) A (zdraw b (.ref it)) Q E s := by
  cases b with
  | false => exact wpAny_bind (m := Builtin.SmallTypes.nextOf (.ref it)) (D.item i s _ _ hi st fun x h' tk p st' sb => wpAny_pure (hQ x h' tk p st' sb))
  | true =>
    show wpAny _ _ (Builtin.SmallTypes.nextOrEnd (.ref it)) _ _ _
    unfold Builtin.SmallTypes.nextOrEnd
    exact wpAny_bind (wpAny_attempt (D.item i s _ _ hi st fun x h' tk p st' sb => wpAny_pure (hQ x h' tk p st' sb)))
theorem zend_strict {it : Addr} {fp : List Addr} {n : Nat} {P : Nat → Value → Prop} {St : Nat → Heap → Prop} {Q : Option Value → Shared → Prop} (D : Draws prog w A it fp n P St) (st : St n s.heap)
    (hQ : ∀ h', Heap.ExtBut it s.heap h' → Q none { s with heap := h' }) : wpAny (model prog w) A (Builtin.SmallTypes.nextOrEnd (.ref it)) Q E s := by
  unfold Builtin.SmallTypes.nextOrEnd
  refine wpAny_bind (wpAny_attempt (D.done s _ _ st fun h' e eb he => ?_))
  obtain ⟨o, ho, hc⟩ := he
  exact wpAny_bind (wpAny_isInstance (T := "StopIteration") (b := true) ⟨o, ho, hc⟩ isSubtype_stop (wpAny_pure (hQ h' eb)))
theorem upd_tup {T : Addr} {vs : Array Value} {x : Value} {k : Nat} {Q : Unit → Shared → Prop} (hT : TupO s.heap T vs) (hz : vs.size ≤ 8)
    (h : ∀ h', TupO h' T (vs.setIfInBounds k x) → Heap.SameBut T s.heap h' → Q () { s with heap := h' }) : wpAny (model prog w) A (updateSeq T (·.setIfInBounds k x)) Q E s := by
  have z8 : (8 : Nat) ≤ sizeLine := by decide
  refine wpAny_updateSeq hT rfl (h _ ?_ (Heap.SameBut.update ..)) (Nat.le_trans hz z8) (by rw [Array.size_setIfInBounds]; exact Nat.le_succ_of_le (Nat.le_trans hz z8))
  unfold TupO
  rw [Heap.get?_update_self _ hT rfl]
  simp [Obj.mapSeq]
theorem iter_zip {z TI TO : Addr} {f0 : Value} {Q : Value → Shared → Prop} (hz : ZipO s.heap z TI TO f0 b) (h : Q (.ref z) s) : wpAny (model prog w) A (pyIter (.ref z)) Q E s := by
  have hT : s.TypeIs (.ref z) "zip" := ⟨_, hz, rfl⟩
  exact wpAny_pyIter_slot hT F.slot_zip_iter (wpAny_call_entry F.slot_zip_iter hT F.entry_zip_iter (wpAny_pure ⟨_, rfl, "zip", _, hT, F.slot_zip_next.lookup, h⟩) (F.args_zip_iter_1 _))
/-- the tuple that was handed out is let go -/
theorem go_zip {elts : List Expr} {x1} {pos : Pos} {z TI TO T : Addr} {Q : Unit → Shared → Prop} (hz : ZipO s.heap z TI TO (rawInt T) b)
    (hQ : ∀ h', ZipO h' z TI TO .none b → Heap.SameBut z s.heap h' → Q () { s with heap := h' }) : wpAny (model prog w) A (letOwnedTupleGo (.Tuple elts x1 pos) (.ref z) (.ref T)) Q E s := by
  unfold letOwnedTupleGo
  refine wpAny_bind (wpAny_load hz ?_)
  show wpAny _ _ (ite _ _ _) Q E s
  rw [if_pos (by simp)]
  exact wpAny_bind (wpAny_rule (wpAny_setField_rec hz (by simp) fun h' hz' hs' => hQ h' hz' hs'))
/-- the StopIteration that a zip ends by -/
theorem stop_it {Q : Fin → Shared → Prop} (hh : A.handled = none) (hE : ∀ h' e, (∀ c o, s.heap.get? c = some o → h'.get? c = some o) → (∃ o, h'.get? e = some o ∧ o.cls = .type "StopIteration") → E (.ref e) { s with heap := h' }) :
    wpAny (model prog w) A (PySem.Builtin.SmallTypes.stopIteration : Sem Fin) Q E s := by
  unfold PySem.Builtin.SmallTypes.stopIteration
  show wpAny _ _ (newExc (.type "StopIteration") [] >>= _) _ _ _
  refine wpAny_bind ?_
  simp only [newExc, newTuple]
  refine wpAny_bind (wpAny_newObj_type ?_ (by size_fits))
  refine wpAny_bind (m := firstArgMember _ _) (wpAny_of_eq (a := Value.none) (by first | rfl | (simp only [firstArgMember]; rfl)) ?_)
  refine wpAny_newObj_type ?_ (by size_fits)
  simp only [raiseNew]
  refine wpAny_bind (wpAny_handled ?_)
  rw [hh]
  exact wpAny_bind (wpAny_pure (wpAny_throw (hE _ _ (fun c o e => Heap.get?_push_of_some _ (Heap.get?_push_of_some _ e)) ⟨_, Heap.get?_push_size _ rfl, rfl⟩)))
end
end CZ

namespace CZ
open PySem PySem.Spec PyProof.Rows L2
open PySem.Sem (wp)
/-- the cells of a zip over 2 iterators lie apart -/
structure Sep2 (z TI TO i1 i2 : Addr) (fp1 fp2 : List Addr) : Prop where
  zTO : z ≠ TO
  zTI : z ≠ TI
  TOTI : TO ≠ TI
  m1 : i1 ∈ fp1
  z1 : z ∉ fp1
  T1 : TO ∉ fp1
  I1 : TI ≠ i1
  s2_1 : i2 ∉ fp1
  m2 : i2 ∈ fp2
  z2 : z ∉ fp2
  T2 : TO ∉ fp2
  I2 : TI ≠ i2
  s1_2 : i1 ∉ fp2
section
variable {prog : Program} {w : World} {A : Around} {E : Value → Shared → Prop} {s : Shared} {b : Bool}
theorem next_item2 {z TI TO i1 i2 : Addr} {fp1 fp2 : List Addr} {n1 n2 i : Nat} {P1 P2 : Nat → Value → Prop} {St1 St2 : Nat → Heap → Prop} {a1 a2 : Value} {Q : Value → Shared → Prop} (S : Sep2 z TI TO i1 i2 fp1 fp2) (D1 : Draws prog w A i1 fp1 n1 P1 St1) (D2 : Draws prog w A i2 fp2 n2 P2 St2)
    (hz : ZipO s.heap z TI TO .none b) (hTI : TupO s.heap TI #[.ref i1, .ref i2]) (hTO : TupO s.heap TO #[a1, a2]) (st1 : St1 i s.heap) (st2 : St2 i s.heap) (hi1 : i < n1) (hi2 : i < n2)
    (hQ : ∀ x1 x2 h' tk, P1 i x1 → P2 i x2 → ZipO h' z TI TO (rawInt s.heap.objs.size) b → TupO h' TO #[x1, x2] → St1 (i + 1) h' → St2 (i + 1) h' → TupO h' s.heap.objs.size #[x1, x2] →
      (∀ c o, c ≠ z → c ≠ TO → c ≠ i1 → c ≠ i2 → s.heap.get? c = some o → h'.get? c = some o) → Q (.ref s.heap.objs.size) { s with heap := h', toks := tk }) :
    wpAny (model prog w) A (Builtin.«zip.__next__» ⟨[.ref z], []⟩) (fun fin s' => ∃ v, fin = .done (.ret v) ∧ Q v s') E s := by
  obtain ⟨hp, g, d, tk0, os⟩ := s
  refine wpAny_bind (m := field (.ref z) 2) (wpAny_field hz rfl (x := .bool b) rfl ?_)
  refine wpAny_bind (m := field (.ref z) 3) (wpAny_field hz rfl (x := .ref TI) rfl ?_)
  refine wpAny_bind (wpAny_seqItems hTI rfl ?_)
  show wpAny _ _ (Builtin.SmallTypes.ownedTupleIsFree (.ref z) >>= _) _ _ _
  rw [val_b]
  refine wpAny_bind ?_
  unfold Builtin.SmallTypes.ownedTupleIsFree
  refine wpAny_bind (wpAny_field hz rfl (x := .none) rfl (wpAny_pure ?_))
  simp only [if_true]
  refine wpAny_bind (wpAny_rule (wpAny_bind (wpAny_field hz rfl (x := .ref TO) rfl ?_)))
  refine wpAny_bind (wpAny_setField_rec hz (by simp) fun g0 hz0 hs0 => wpAny_bind ?_)
  replace hs0 : Heap.SameBut z hp g0 := hs0
  replace hz0 : ZipO g0 z TI TO .ellipsis b := hz0
  have hT0 : TupO g0 TO #[a1, a2] := hs0.extBut _ _ S.zTO.symm hTO
  have t1_0 : St1 i g0 := D1.frame _ _ _ st1 fun c hc o e => hs0.extBut c o (fun q => S.z1 (q ▸ hc)) e
  have t2_0 : St2 i g0 := D2.frame _ _ _ st2 fun c hc o e => hs0.extBut c o (fun q => S.z2 (q ▸ hc)) e
  have k0 : ∀ c o, c ≠ z → c ≠ TO → c ≠ i1 → c ≠ i2 → hp.get? c = some o → g0.get? c = some o := fun c o q0 _ _ _ e => hs0.extBut c o q0 e
  simp only [List.zipIdx_cons, List.zipIdx_nil, List.forIn_cons, List.forIn_nil]
  refine wpAny_bind (wpAny_bind (wpAny_onRaise (m := zdraw b (.ref i1)) (zdraw_item (s := ⟨g0, g, d, tk0, os⟩) D1 hi1 t1_0 fun x1 d1 tk1 p1 n1 hd1 => ?_)))
  replace hd1 : Heap.SameBut i1 g0 d1 := hd1
  have hU1 : TupO d1 TO #[a1, a2] := hd1.extBut _ _ (fun q => S.T1 (q ▸ S.m1)) hT0
  refine wpAny_bind (wpAny_seqItems (s := ⟨d1, g, d, tk1, os⟩) hU1 rfl ?_)
  refine wpAny_bind (upd_tup (s := ⟨d1, g, d, tk1, os⟩) hU1 (by simp) fun g1 hT1 hs1 => ?_)
  replace hs1 : Heap.SameBut TO d1 g1 := hs1
  replace hT1 : TupO g1 TO #[x1, a2] := hT1
  have hz1 : ZipO g1 z TI TO .ellipsis b := hs1.extBut _ _ S.zTO (hd1.extBut _ _ (fun q => S.z1 (q ▸ S.m1)) hz0)
  have t1_1 : St1 (i + 1) g1 := D1.frame _ _ _ n1 fun c hc o e => hs1.extBut c o (fun q => S.T1 (q ▸ hc)) e
  have t2_1 : St2 i g1 := D2.frame _ _ _ t2_0 fun c hc o e => hs1.extBut c o (fun q => S.T2 (q ▸ hc)) (hd1.extBut c o (fun q => S.s1_2 (q ▸ hc)) e)
  have k1 : ∀ c o, c ≠ z → c ≠ TO → c ≠ i1 → c ≠ i2 → hp.get? c = some o → g1.get? c = some o := fun c o qz qT q1 q2 e => hs1.extBut c o qT (hd1.extBut c o q1 (k0 c o qz qT q1 q2 e))
  have e1 : g1.objs.size = g0.objs.size := by rw [hs1.1, hd1.1]
  refine wpAny_bind (wpAny_letGo (wpAny_pure ?_))
  refine wpAny_bind (wpAny_bind (wpAny_onRaise (m := zdraw b (.ref i2)) (zdraw_item (s := ⟨g1, g, d, tk1, os⟩) D2 hi2 t2_1 fun x2 d2 tk2 p2 n2 hd2 => ?_)))
  replace hd2 : Heap.SameBut i2 g1 d2 := hd2
  have hU2 : TupO d2 TO #[x1, a2] := hd2.extBut _ _ (fun q => S.T2 (q ▸ S.m2)) hT1
  refine wpAny_bind (wpAny_seqItems (s := ⟨d2, g, d, tk2, os⟩) hU2 rfl ?_)
  refine wpAny_bind (upd_tup (s := ⟨d2, g, d, tk2, os⟩) hU2 (by simp) fun g2 hT2 hs2 => ?_)
  replace hs2 : Heap.SameBut TO d2 g2 := hs2
  replace hT2 : TupO g2 TO #[x1, x2] := hT2
  have hz2 : ZipO g2 z TI TO .ellipsis b := hs2.extBut _ _ S.zTO (hd2.extBut _ _ (fun q => S.z2 (q ▸ S.m2)) hz1)
  have t1_2 : St1 (i + 1) g2 := D1.frame _ _ _ t1_1 fun c hc o e => hs2.extBut c o (fun q => S.T1 (q ▸ hc)) (hd2.extBut c o (fun q => S.s2_1 (q ▸ hc)) e)
  have t2_2 : St2 (i + 1) g2 := D2.frame _ _ _ n2 fun c hc o e => hs2.extBut c o (fun q => S.T2 (q ▸ hc)) e
  have k2 : ∀ c o, c ≠ z → c ≠ TO → c ≠ i1 → c ≠ i2 → hp.get? c = some o → g2.get? c = some o := fun c o qz qT q1 q2 e => hs2.extBut c o qT (hd2.extBut c o q2 (k1 c o qz qT q1 q2 e))
  have e2 : g2.objs.size = g1.objs.size := by rw [hs2.1, hd2.1]
  refine wpAny_bind (wpAny_letGo (wpAny_pure ?_))
  refine wpAny_pure ?_
  refine wpAny_bind (wpAny_seqItems (s := ⟨g2, g, d, tk2, os⟩) hT2 rfl ?_)
  refine wpAny_bind (wpAny_newTuple ?_)
  have hsz : g2.objs.size = hp.objs.size := by rw [e2, e1, hs0.1]
  have hlt : z < g2.objs.size := Heap.lt_size hz2
  refine wpAny_bind ?_
  unfold Builtin.SmallTypes.ownedTupleHandOut
  have hy : ZipO (g2.push { cls := .type "tuple", data := .seq #[x1, x2] }) z TI TO .ellipsis b := Heap.get?_push_of_some _ hz2
  refine wpAny_bind (wpAny_setField_rec hy (by simp) fun u1 hu1 hv1 => wpAny_setField_rec hu1 (by simp) fun u2 hu2 hv2 => ?_)
  have up : ∀ c o, c ≠ z → g2.get? c = some o → u2.get? c = some o := fun c o q e => hv2.extBut c o q (hv1.extBut c o q (Heap.get?_push_of_some _ e))
  have hN : TupO u2 g2.objs.size #[x1, x2] := hv2.extBut _ _ (Nat.ne_of_gt hlt) (hv1.extBut _ _ (Nat.ne_of_gt hlt) (Heap.get?_push_size _ rfl))
  have hZ : ZipO u2 z TI TO (rawInt g2.objs.size) b := hu2
  rw [hsz] at hN hZ
  refine wpAny_pure ⟨_, rfl, ?_⟩
  show Q (.ref g2.objs.size) ⟨u2, g, d, tk2, os⟩
  rw [hsz]
  exact hQ x1 x2 u2 tk2 p1 p2 hZ (up _ _ S.zTO.symm hT2) (D1.frame _ _ _ t1_2 fun c hc o e => up c o (fun q => S.z1 (q ▸ hc)) e) (D2.frame _ _ _ t2_2 fun c hc o e => up c o (fun q => S.z2 (q ▸ hc)) e) hN fun c o qz qT q1 q2 e => up c o qz (k2 c o qz qT q1 q2 e)
theorem next_end2 {z TI TO i1 i2 : Addr} {fp1 fp2 : List Addr} {n : Nat} {P1 P2 : Nat → Value → Prop} {St1 St2 : Nat → Heap → Prop} {a1 a2 : Value} {Q : Fin → Shared → Prop} (hh : A.handled = none) (S : Sep2 z TI TO i1 i2 fp1 fp2) (D1 : Draws prog w A i1 fp1 n P1 St1) (D2 : Draws prog w A i2 fp2 n P2 St2)
    (hz : ZipO s.heap z TI TO .none b) (hTI : TupO s.heap TI #[.ref i1, .ref i2]) (hTO : TupO s.heap TO #[a1, a2]) (st1 : St1 n s.heap) (st2 : St2 n s.heap)
    (hE : ∀ h' e, (∀ c o, c ≠ z → c ≠ TO → c ≠ i1 → c ≠ i2 → s.heap.get? c = some o → h'.get? c = some o) → (∃ o, h'.get? e = some o ∧ o.cls = .type "StopIteration") → E (.ref e) { s with heap := h' }) :
    wpAny (model prog w) A (Builtin.«zip.__next__» ⟨[.ref z], []⟩) Q E s := by
  obtain ⟨hp, g, d, tk0, os⟩ := s
  refine wpAny_bind (m := field (.ref z) 2) (wpAny_field hz rfl (x := .bool b) rfl ?_)
  refine wpAny_bind (m := field (.ref z) 3) (wpAny_field hz rfl (x := .ref TI) rfl ?_)
  refine wpAny_bind (wpAny_seqItems hTI rfl ?_)
  show wpAny _ _ (Builtin.SmallTypes.ownedTupleIsFree (.ref z) >>= _) _ _ _
  rw [val_b]
  refine wpAny_bind ?_
  unfold Builtin.SmallTypes.ownedTupleIsFree
  refine wpAny_bind (wpAny_field hz rfl (x := .none) rfl (wpAny_pure ?_))
  simp only [if_true]
  refine wpAny_bind (wpAny_rule (wpAny_bind (wpAny_field hz rfl (x := .ref TO) rfl ?_)))
  refine wpAny_bind (wpAny_setField_rec hz (by simp) fun g0 hz0 hs0 => wpAny_bind ?_)
  replace hs0 : Heap.SameBut z hp g0 := hs0
  replace hz0 : ZipO g0 z TI TO .ellipsis b := hz0
  have t1_0 : St1 n g0 := D1.frame _ _ _ st1 fun c hc o e => hs0.extBut c o (fun q => S.z1 (q ▸ hc)) e
  have t2_0 : St2 n g0 := D2.frame _ _ _ st2 fun c hc o e => hs0.extBut c o (fun q => S.z2 (q ▸ hc)) e
  simp only [List.zipIdx_cons, List.zipIdx_nil, List.forIn_cons, List.forIn_nil]
  refine wpAny_bind (wpAny_bind (wpAny_onRaise ?_))
  cases b with
  | false =>
    refine wpAny_bind (m := Builtin.SmallTypes.nextOf (.ref i1)) (D1.done ⟨g0, g, d, tk0, os⟩ _ _ t1_0 fun y e hy he => ?_)
    replace hy : Heap.ExtBut i1 g0 y := hy
    obtain ⟨oe, hoe, hce⟩ := he
    replace hoe : y.get? e = some oe := hoe
    have hzy : ZipO y z TI TO .ellipsis false := hy _ _ (fun q => S.z1 (q ▸ S.m1)) hz0
    have hez : e ≠ z := fun x => by subst x; rw [hzy] at hoe; cases hoe; simp at hce
    refine wpAny_setField_rec (s := ⟨y, g, d, tk0, os⟩) hzy (by simp) fun y2 _ hv => ?_
    replace hv : Heap.SameBut z y y2 := hv
    exact hE y2 e (fun c o qz qT q1 q2 x => hv.extBut c o qz (hy c o q1 (hs0.extBut c o qz x))) ⟨oe, hv.extBut _ _ hez hoe, hce⟩
  | true =>
    refine zend_strict (s := ⟨g0, g, d, tk0, os⟩) D1 t1_0 fun y hy => ?_
    replace hy : Heap.ExtBut i1 g0 y := hy
    have hzy : ZipO y z TI TO .ellipsis true := hy _ _ (fun q => S.z1 (q ▸ S.m1)) hz0
    have t2_1 : St2 n y := D2.frame _ _ _ t2_0 fun c hc o e => hy c o (fun q => S.s1_2 (q ▸ hc)) e
    refine wpAny_bind (wpAny_setField_rec (s := ⟨y, g, d, tk0, os⟩) hzy (by simp) fun y1 _ hv1 => ?_)
    replace hv1 : Heap.SameBut z y y1 := hv1
    have r2_1 : St2 n y1 := D2.frame _ _ _ t2_1 fun c hc o e => hv1.extBut c o (fun q => S.z2 (q ▸ hc)) e
    have k1 : ∀ c o, c ≠ z → c ≠ TO → c ≠ i1 → c ≠ i2 → hp.get? c = some o → y1.get? c = some o := fun c o qz qT q1 q2 e => hv1.extBut c o qz (hy c o q1 (hs0.extBut c o qz e))
    refine wpAny_bind ?_
    refine wpAny_bind ?_
    simp only [List.drop_succ_cons, List.drop_zero, List.zipIdx_cons, List.zipIdx_nil, List.forIn_cons, List.forIn_nil]
    refine wpAny_bind (wpAny_bind (zend_strict (s := ⟨y1, g, d, tk0, os⟩) D2 r2_1 fun y2 hy2 => ?_))
    replace hy2 : Heap.ExtBut i2 y1 y2 := hy2
    have k2 : ∀ c o, c ≠ z → c ≠ TO → c ≠ i1 → c ≠ i2 → hp.get? c = some o → y2.get? c = some o := fun c o qz qT q1 q2 e => hy2 c o q2 (k1 c o qz qT q1 q2 e)
    refine wpAny_pure ?_
    refine wpAny_pure ?_
    exact wpAny_bind (wpAny_rule (stop_it (s := ⟨y2, g, d, tk0, os⟩) hh fun h2 e kk he => hE h2 e (fun c o qz qT q1 q2 x => kk c o (k2 c o qz qT q1 q2 x)) he))
theorem py_item2 {z TI TO i1 i2 : Addr} {fp1 fp2 : List Addr} {n1 n2 i : Nat} {P1 P2 : Nat → Value → Prop} {St1 St2 : Nat → Heap → Prop} {a1 a2 : Value} {Q : Option Value → Shared → Prop} (S : Sep2 z TI TO i1 i2 fp1 fp2) (D1 : Draws prog w A.in1 i1 fp1 n1 P1 St1) (D2 : Draws prog w A.in1 i2 fp2 n2 P2 St2)
    (hz : ZipO s.heap z TI TO .none b) (hTI : TupO s.heap TI #[.ref i1, .ref i2]) (hTO : TupO s.heap TO #[a1, a2]) (st1 : St1 i s.heap) (st2 : St2 i s.heap) (hi1 : i < n1) (hi2 : i < n2)
    (hQ : ∀ x1 x2 h' tk, P1 i x1 → P2 i x2 → ZipO h' z TI TO (rawInt s.heap.objs.size) b → TupO h' TO #[x1, x2] → St1 (i + 1) h' → St2 (i + 1) h' → TupO h' s.heap.objs.size #[x1, x2] →
      (∀ c o, c ≠ z → c ≠ TO → c ≠ i1 → c ≠ i2 → s.heap.get? c = some o → h'.get? c = some o) → Q (some (.ref s.heap.objs.size)) { s with heap := h', toks := tk }) : wpAny (model prog w) A (pyNext (.ref z)) Q E s := by
  have hT : s.TypeIs (.ref z) "zip" := ⟨_, hz, rfl⟩
  unfold pyNext
  refine wpAny_bind (wpAny_attempt (wpAny_callSpecial?_slot (name := Str.ofString "__next__") hT F.slot_zip_next (wpAny_call_entry F.slot_zip_next hT F.entry_zip_next ?_ (F.args_zip_next_1 _))))
  exact next_item2 S D1 D2 hz hTI hTO st1 st2 hi1 hi2 fun x1 x2 h2 tk p1 p2 q1 q2 u1 u2 q3 q4 => wpAny_pure (hQ x1 x2 h2 tk p1 p2 q1 q2 u1 u2 q3 q4)
theorem py_end2 {z TI TO i1 i2 : Addr} {fp1 fp2 : List Addr} {n : Nat} {P1 P2 : Nat → Value → Prop} {St1 St2 : Nat → Heap → Prop} {a1 a2 : Value} {Q : Option Value → Shared → Prop} (hh : A.handled = none) (S : Sep2 z TI TO i1 i2 fp1 fp2) (D1 : Draws prog w A.in1 i1 fp1 n P1 St1) (D2 : Draws prog w A.in1 i2 fp2 n P2 St2)
    (hz : ZipO s.heap z TI TO .none b) (hTI : TupO s.heap TI #[.ref i1, .ref i2]) (hTO : TupO s.heap TO #[a1, a2]) (st1 : St1 n s.heap) (st2 : St2 n s.heap)
    (hQ : ∀ h', (∀ c o, c ≠ z → c ≠ TO → c ≠ i1 → c ≠ i2 → s.heap.get? c = some o → h'.get? c = some o) → Q none { s with heap := h' }) : wpAny (model prog w) A (pyNext (.ref z)) Q E s := by
  have hT : s.TypeIs (.ref z) "zip" := ⟨_, hz, rfl⟩
  unfold pyNext
  refine wpAny_bind (wpAny_attempt (wpAny_callSpecial?_slot (name := Str.ofString "__next__") hT F.slot_zip_next (wpAny_call_entry F.slot_zip_next hT F.entry_zip_next ?_ (F.args_zip_next_1 _))))
  refine next_end2 (A := A.in1) hh S D1 D2 hz hTI hTO st1 st2 fun h2 e kk he => ?_
  obtain ⟨o, ho, hc⟩ := he
  exact wpAny_bind (wpAny_isInstance (T := "StopIteration") (b := true) ⟨o, ho, hc⟩ isSubtype_stop (wpAny_pure (hQ _ kk)))
theorem typeCall_strict2 (v1 v2 x : Value) : checkTypeCall "zip" ⟨[v1, v2], [(Str.ofString "strict", x)]⟩ = pure () := by kernel_rfl
theorem newCall_strict2 (v1 v2 x : Value) : checkBuiltinCall "zip.__new__" ⟨[.type "zip", v1, v2], [(Str.ofString "strict", x)]⟩ = pure () := by kernel_rfl
theorem initArgs_strict2 (obj v1 v2 x : Value) : argsOk "object.__init__" ⟨[obj, v1, v2], [(Str.ofString "strict", x)]⟩ := by unfold argsOk; kernel_rfl
abbrev sT2 (h : Heap) (o1 o2 : Obj) : Heap := (((h.push o1).push o2).push { cls := .type "tuple", data := .seq #[.ref h.objs.size, .ref (h.push o1).objs.size] })
abbrev sO2 (h : Heap) (o1 o2 : Obj) : Heap := (sT2 h o1 o2).push { cls := .type "tuple", data := .seq #[.none, .none] }
abbrev sZ2 (h : Heap) (o1 o2 : Obj) : Heap := (sO2 h o1 o2).push { cls := .type "zip", data := .fields #[.none, .bool false, .bool true, .ref ((h.push o1).push o2).objs.size, .ref (sT2 h o1 o2).objs.size] }
theorem meets_strict2 {v1 v2 : Value} {o1 o2 : Obj} {G1 G2 : Heap → Prop} (B1 : Begins v1 o1 G1) (B2 : Begins v2 o2 G2) :
    Meets (Builtin.«zip.__new__» ⟨[.type "zip", v1, v2], [(Str.ofString "strict", .bool true)]⟩) (fun _ R s => (G1 s.heap ∧ G2 s.heap) ∧ R (.ok (.ret (.ref (sO2 s.heap o1 o2).objs.size))) { s with heap := (sZ2 s.heap o1 o2) }) :=
  .of_wp fun prog w A R s h => by
    obtain ⟨hp, g, d, tk, os⟩ := s
    obtain ⟨⟨h1, h2⟩, h⟩ := h
    have hsub := sub_zip
    have e1 : (Str.ofString "strict" != ("strict" : Str)) = false := by decide +kernel
    have w1 : ∀ {A' : Around} {E : Value → Shared → Prop} {Q : Value → Shared → Prop}, Q (.ref hp.objs.size) ⟨(hp.push o1), g, d, tk, os⟩ → wpAny (model prog w) A' (pyIter v1) Q E ⟨hp, g, d, tk, os⟩ := fun q => B1.iter prog w _ _ ⟨hp, g, d, tk, os⟩ _ (B1.keeps _ _ h1 fun c u e => e) q
    have w2 : ∀ {A' : Around} {E : Value → Shared → Prop} {Q : Value → Shared → Prop}, Q (.ref (hp.push o1).objs.size) ⟨((hp.push o1).push o2), g, d, tk, os⟩ → wpAny (model prog w) A' (pyIter v2) Q E ⟨(hp.push o1), g, d, tk, os⟩ := fun q => B2.iter prog w _ _ ⟨(hp.push o1), g, d, tk, os⟩ _ (B2.keeps _ _ h2 fun c u e => (Heap.get?_push_of_some _ e)) q
    wp_walk using w1, w2
    exact ⟨_, rfl, h⟩
/-- zip(.., strict=True) of 2: its new cells -/
theorem begins_strict2 {v1 v2 : Value} {o1 o2 : Obj} {G1 G2 : Heap → Prop} {Q : Value → Shared → Prop} (B1 : Begins v1 o1 G1) (B2 : Begins v2 o2 G2) (h1 : G1 s.heap) (h2 : G2 s.heap)
    (h : ∀ h', ZipO h' (s.heap.objs.size + 4) (s.heap.objs.size + 2) (s.heap.objs.size + 3) .none true → TupO h' (s.heap.objs.size + 2) #[.ref s.heap.objs.size, .ref (s.heap.objs.size + 1)] → TupO h' (s.heap.objs.size + 3) #[.none, .none] → h'.get? s.heap.objs.size = some o1 → h'.get? (s.heap.objs.size + 1) = some o2 → (∀ c o, s.heap.get? c = some o → h'.get? c = some o) → Q (.ref (s.heap.objs.size + 4)) { s with heap := h' }) :
    wpAny (model prog w) A (call (.type "zip") [v1, v2] [(Str.ofString "strict", .bool true)]) Q E s := by
  refine callType_newKw F.called_zip (by decide) (typeCall_strict2 _ _ _) (newCall_strict2 _ _ _) (fun obj => initArgs_strict2 obj _ _ _) F.entry_zip_new (meets_strict2 B1 B2) ⟨⟨h1, h2⟩, ?_⟩
  have z1 : (s.heap.push o1).objs.size = s.heap.objs.size + 1 := by rw [Heap.size_push]
  have z2 : ((s.heap.push o1).push o2).objs.size = s.heap.objs.size + 2 := by rw [Heap.size_push, z1]
  have z3 : (sT2 s.heap o1 o2).objs.size = s.heap.objs.size + 3 := by rw [Heap.size_push, z2]
  have z4 : (sO2 s.heap o1 o2).objs.size = s.heap.objs.size + 4 := by rw [Heap.size_push, z3]
  have z5 : (sZ2 s.heap o1 o2).objs.size = s.heap.objs.size + 5 := by rw [Heap.size_push, z4]
  have q0 : (sZ2 s.heap o1 o2).get? s.heap.objs.size = some o1 := (Heap.get?_push_of_some _ (Heap.get?_push_of_some _ (Heap.get?_push_of_some _ (Heap.get?_push_of_some _ (Heap.get?_push_size _ B1.free)))))
  have q1 : (sZ2 s.heap o1 o2).get? (s.heap.push o1).objs.size = some o2 := (Heap.get?_push_of_some _ (Heap.get?_push_of_some _ (Heap.get?_push_of_some _ (Heap.get?_push_size _ B2.free))))
  rw [z1] at q1
  have q2 : (sZ2 s.heap o1 o2).get? ((s.heap.push o1).push o2).objs.size = some ({ cls := .type "tuple", data := .seq #[.ref s.heap.objs.size, .ref (s.heap.push o1).objs.size] } : Obj) := (Heap.get?_push_of_some _ (Heap.get?_push_of_some _ (Heap.get?_push_size _ rfl)))
  rw [z2] at q2
  have q3 : (sZ2 s.heap o1 o2).get? (sT2 s.heap o1 o2).objs.size = some ({ cls := .type "tuple", data := .seq #[.none, .none] } : Obj) := (Heap.get?_push_of_some _ (Heap.get?_push_size _ rfl))
  rw [z3] at q3
  have q4 : (sZ2 s.heap o1 o2).get? (sO2 s.heap o1 o2).objs.size = some ({ cls := .type "zip", data := .fields #[.none, .bool false, .bool true, .ref ((s.heap.push o1).push o2).objs.size, .ref (sT2 s.heap o1 o2).objs.size] } : Obj) := (Heap.get?_push_size _ rfl)
  rw [z4] at q4
  rw [z1] at q2
  rw [z3, z2] at q4
  show _ ∧ _
  rw [z4]
  exact ⟨⟨_, q4, rfl⟩, h _ q4 q2 q3 q0 q1 fun c o e => (Heap.get?_push_of_some _ (Heap.get?_push_of_some _ (Heap.get?_push_of_some _ (Heap.get?_push_of_some _ (Heap.get?_push_of_some _ e)))))⟩
end
/-- the cells of a zip over 3 iterators lie apart -/
structure Sep3 (z TI TO i1 i2 i3 : Addr) (fp1 fp2 fp3 : List Addr) : Prop where
  zTO : z ≠ TO
  zTI : z ≠ TI
  TOTI : TO ≠ TI
  m1 : i1 ∈ fp1
  z1 : z ∉ fp1
  T1 : TO ∉ fp1
  I1 : TI ≠ i1
  s2_1 : i2 ∉ fp1
  s3_1 : i3 ∉ fp1
  m2 : i2 ∈ fp2
  z2 : z ∉ fp2
  T2 : TO ∉ fp2
  I2 : TI ≠ i2
  s1_2 : i1 ∉ fp2
  s3_2 : i3 ∉ fp2
  m3 : i3 ∈ fp3
  z3 : z ∉ fp3
  T3 : TO ∉ fp3
  I3 : TI ≠ i3
  s1_3 : i1 ∉ fp3
  s2_3 : i2 ∉ fp3
section
variable {prog : Program} {w : World} {A : Around} {E : Value → Shared → Prop} {s : Shared} {b : Bool}
theorem next_item3 {z TI TO i1 i2 i3 : Addr} {fp1 fp2 fp3 : List Addr} {n1 n2 n3 i : Nat} {P1 P2 P3 : Nat → Value → Prop} {St1 St2 St3 : Nat → Heap → Prop} {a1 a2 a3 : Value} {Q : Value → Shared → Prop} (S : Sep3 z TI TO i1 i2 i3 fp1 fp2 fp3) (D1 : Draws prog w A i1 fp1 n1 P1 St1) (D2 : Draws prog w A i2 fp2 n2 P2 St2) (D3 : Draws prog w A i3 fp3 n3 P3 St3)
    (hz : ZipO s.heap z TI TO .none b) (hTI : TupO s.heap TI #[.ref i1, .ref i2, .ref i3]) (hTO : TupO s.heap TO #[a1, a2, a3]) (st1 : St1 i s.heap) (st2 : St2 i s.heap) (st3 : St3 i s.heap) (hi1 : i < n1) (hi2 : i < n2) (hi3 : i < n3)
    (hQ : ∀ x1 x2 x3 h' tk, P1 i x1 → P2 i x2 → P3 i x3 → ZipO h' z TI TO (rawInt s.heap.objs.size) b → TupO h' TO #[x1, x2, x3] → St1 (i + 1) h' → St2 (i + 1) h' → St3 (i + 1) h' → TupO h' s.heap.objs.size #[x1, x2, x3] →
      (∀ c o, c ≠ z → c ≠ TO → c ≠ i1 → c ≠ i2 → c ≠ i3 → s.heap.get? c = some o → h'.get? c = some o) → Q (.ref s.heap.objs.size) { s with heap := h', toks := tk }) :
    wpAny (model prog w) A (Builtin.«zip.__next__» ⟨[.ref z], []⟩) (fun fin s' => ∃ v, fin = .done (.ret v) ∧ Q v s') E s := by
  obtain ⟨hp, g, d, tk0, os⟩ := s
  refine wpAny_bind (m := field (.ref z) 2) (wpAny_field hz rfl (x := .bool b) rfl ?_)
  refine wpAny_bind (m := field (.ref z) 3) (wpAny_field hz rfl (x := .ref TI) rfl ?_)
  refine wpAny_bind (wpAny_seqItems hTI rfl ?_)
  show wpAny _ _ (Builtin.SmallTypes.ownedTupleIsFree (.ref z) >>= _) _ _ _
  rw [val_b]
  refine wpAny_bind ?_
  unfold Builtin.SmallTypes.ownedTupleIsFree
  refine wpAny_bind (wpAny_field hz rfl (x := .none) rfl (wpAny_pure ?_))
  simp only [if_true]
  refine wpAny_bind (wpAny_rule (wpAny_bind (wpAny_field hz rfl (x := .ref TO) rfl ?_)))
  refine wpAny_bind (wpAny_setField_rec hz (by simp) fun g0 hz0 hs0 => wpAny_bind ?_)
  replace hs0 : Heap.SameBut z hp g0 := hs0
  replace hz0 : ZipO g0 z TI TO .ellipsis b := hz0
  have hT0 : TupO g0 TO #[a1, a2, a3] := hs0.extBut _ _ S.zTO.symm hTO
  have t1_0 : St1 i g0 := D1.frame _ _ _ st1 fun c hc o e => hs0.extBut c o (fun q => S.z1 (q ▸ hc)) e
  have t2_0 : St2 i g0 := D2.frame _ _ _ st2 fun c hc o e => hs0.extBut c o (fun q => S.z2 (q ▸ hc)) e
  have t3_0 : St3 i g0 := D3.frame _ _ _ st3 fun c hc o e => hs0.extBut c o (fun q => S.z3 (q ▸ hc)) e
  have k0 : ∀ c o, c ≠ z → c ≠ TO → c ≠ i1 → c ≠ i2 → c ≠ i3 → hp.get? c = some o → g0.get? c = some o := fun c o q0 _ _ _ _ e => hs0.extBut c o q0 e
  simp only [List.zipIdx_cons, List.zipIdx_nil, List.forIn_cons, List.forIn_nil]
  refine wpAny_bind (wpAny_bind (wpAny_onRaise (m := zdraw b (.ref i1)) (zdraw_item (s := ⟨g0, g, d, tk0, os⟩) D1 hi1 t1_0 fun x1 d1 tk1 p1 n1 hd1 => ?_)))
  replace hd1 : Heap.SameBut i1 g0 d1 := hd1
  have hU1 : TupO d1 TO #[a1, a2, a3] := hd1.extBut _ _ (fun q => S.T1 (q ▸ S.m1)) hT0
  refine wpAny_bind (wpAny_seqItems (s := ⟨d1, g, d, tk1, os⟩) hU1 rfl ?_)
  refine wpAny_bind (upd_tup (s := ⟨d1, g, d, tk1, os⟩) hU1 (by simp) fun g1 hT1 hs1 => ?_)
  replace hs1 : Heap.SameBut TO d1 g1 := hs1
  replace hT1 : TupO g1 TO #[x1, a2, a3] := hT1
  have hz1 : ZipO g1 z TI TO .ellipsis b := hs1.extBut _ _ S.zTO (hd1.extBut _ _ (fun q => S.z1 (q ▸ S.m1)) hz0)
  have t1_1 : St1 (i + 1) g1 := D1.frame _ _ _ n1 fun c hc o e => hs1.extBut c o (fun q => S.T1 (q ▸ hc)) e
  have t2_1 : St2 i g1 := D2.frame _ _ _ t2_0 fun c hc o e => hs1.extBut c o (fun q => S.T2 (q ▸ hc)) (hd1.extBut c o (fun q => S.s1_2 (q ▸ hc)) e)
  have t3_1 : St3 i g1 := D3.frame _ _ _ t3_0 fun c hc o e => hs1.extBut c o (fun q => S.T3 (q ▸ hc)) (hd1.extBut c o (fun q => S.s1_3 (q ▸ hc)) e)
  have k1 : ∀ c o, c ≠ z → c ≠ TO → c ≠ i1 → c ≠ i2 → c ≠ i3 → hp.get? c = some o → g1.get? c = some o := fun c o qz qT q1 q2 q3 e => hs1.extBut c o qT (hd1.extBut c o q1 (k0 c o qz qT q1 q2 q3 e))
  have e1 : g1.objs.size = g0.objs.size := by rw [hs1.1, hd1.1]
  refine wpAny_bind (wpAny_letGo (wpAny_pure ?_))
  refine wpAny_bind (wpAny_bind (wpAny_onRaise (m := zdraw b (.ref i2)) (zdraw_item (s := ⟨g1, g, d, tk1, os⟩) D2 hi2 t2_1 fun x2 d2 tk2 p2 n2 hd2 => ?_)))
  replace hd2 : Heap.SameBut i2 g1 d2 := hd2
  have hU2 : TupO d2 TO #[x1, a2, a3] := hd2.extBut _ _ (fun q => S.T2 (q ▸ S.m2)) hT1
  refine wpAny_bind (wpAny_seqItems (s := ⟨d2, g, d, tk2, os⟩) hU2 rfl ?_)
  refine wpAny_bind (upd_tup (s := ⟨d2, g, d, tk2, os⟩) hU2 (by simp) fun g2 hT2 hs2 => ?_)
  replace hs2 : Heap.SameBut TO d2 g2 := hs2
  replace hT2 : TupO g2 TO #[x1, x2, a3] := hT2
  have hz2 : ZipO g2 z TI TO .ellipsis b := hs2.extBut _ _ S.zTO (hd2.extBut _ _ (fun q => S.z2 (q ▸ S.m2)) hz1)
  have t1_2 : St1 (i + 1) g2 := D1.frame _ _ _ t1_1 fun c hc o e => hs2.extBut c o (fun q => S.T1 (q ▸ hc)) (hd2.extBut c o (fun q => S.s2_1 (q ▸ hc)) e)
  have t2_2 : St2 (i + 1) g2 := D2.frame _ _ _ n2 fun c hc o e => hs2.extBut c o (fun q => S.T2 (q ▸ hc)) e
  have t3_2 : St3 i g2 := D3.frame _ _ _ t3_1 fun c hc o e => hs2.extBut c o (fun q => S.T3 (q ▸ hc)) (hd2.extBut c o (fun q => S.s2_3 (q ▸ hc)) e)
  have k2 : ∀ c o, c ≠ z → c ≠ TO → c ≠ i1 → c ≠ i2 → c ≠ i3 → hp.get? c = some o → g2.get? c = some o := fun c o qz qT q1 q2 q3 e => hs2.extBut c o qT (hd2.extBut c o q2 (k1 c o qz qT q1 q2 q3 e))
  have e2 : g2.objs.size = g1.objs.size := by rw [hs2.1, hd2.1]
  refine wpAny_bind (wpAny_letGo (wpAny_pure ?_))
  refine wpAny_bind (wpAny_bind (wpAny_onRaise (m := zdraw b (.ref i3)) (zdraw_item (s := ⟨g2, g, d, tk2, os⟩) D3 hi3 t3_2 fun x3 d3 tk3 p3 n3 hd3 => ?_)))
  replace hd3 : Heap.SameBut i3 g2 d3 := hd3
  have hU3 : TupO d3 TO #[x1, x2, a3] := hd3.extBut _ _ (fun q => S.T3 (q ▸ S.m3)) hT2
  refine wpAny_bind (wpAny_seqItems (s := ⟨d3, g, d, tk3, os⟩) hU3 rfl ?_)
  refine wpAny_bind (upd_tup (s := ⟨d3, g, d, tk3, os⟩) hU3 (by simp) fun g3 hT3 hs3 => ?_)
  replace hs3 : Heap.SameBut TO d3 g3 := hs3
  replace hT3 : TupO g3 TO #[x1, x2, x3] := hT3
  have hz3 : ZipO g3 z TI TO .ellipsis b := hs3.extBut _ _ S.zTO (hd3.extBut _ _ (fun q => S.z3 (q ▸ S.m3)) hz2)
  have t1_3 : St1 (i + 1) g3 := D1.frame _ _ _ t1_2 fun c hc o e => hs3.extBut c o (fun q => S.T1 (q ▸ hc)) (hd3.extBut c o (fun q => S.s3_1 (q ▸ hc)) e)
  have t2_3 : St2 (i + 1) g3 := D2.frame _ _ _ t2_2 fun c hc o e => hs3.extBut c o (fun q => S.T2 (q ▸ hc)) (hd3.extBut c o (fun q => S.s3_2 (q ▸ hc)) e)
  have t3_3 : St3 (i + 1) g3 := D3.frame _ _ _ n3 fun c hc o e => hs3.extBut c o (fun q => S.T3 (q ▸ hc)) e
  have k3 : ∀ c o, c ≠ z → c ≠ TO → c ≠ i1 → c ≠ i2 → c ≠ i3 → hp.get? c = some o → g3.get? c = some o := fun c o qz qT q1 q2 q3 e => hs3.extBut c o qT (hd3.extBut c o q3 (k2 c o qz qT q1 q2 q3 e))
  have e3 : g3.objs.size = g2.objs.size := by rw [hs3.1, hd3.1]
  refine wpAny_bind (wpAny_letGo (wpAny_pure ?_))
  refine wpAny_pure ?_
  refine wpAny_bind (wpAny_seqItems (s := ⟨g3, g, d, tk3, os⟩) hT3 rfl ?_)
  refine wpAny_bind (wpAny_newTuple ?_)
  have hsz : g3.objs.size = hp.objs.size := by rw [e3, e2, e1, hs0.1]
  have hlt : z < g3.objs.size := Heap.lt_size hz3
  refine wpAny_bind ?_
  unfold Builtin.SmallTypes.ownedTupleHandOut
  have hy : ZipO (g3.push { cls := .type "tuple", data := .seq #[x1, x2, x3] }) z TI TO .ellipsis b := Heap.get?_push_of_some _ hz3
  refine wpAny_bind (wpAny_setField_rec hy (by simp) fun u1 hu1 hv1 => wpAny_setField_rec hu1 (by simp) fun u2 hu2 hv2 => ?_)
  have up : ∀ c o, c ≠ z → g3.get? c = some o → u2.get? c = some o := fun c o q e => hv2.extBut c o q (hv1.extBut c o q (Heap.get?_push_of_some _ e))
  have hN : TupO u2 g3.objs.size #[x1, x2, x3] := hv2.extBut _ _ (Nat.ne_of_gt hlt) (hv1.extBut _ _ (Nat.ne_of_gt hlt) (Heap.get?_push_size _ rfl))
  have hZ : ZipO u2 z TI TO (rawInt g3.objs.size) b := hu2
  rw [hsz] at hN hZ
  refine wpAny_pure ⟨_, rfl, ?_⟩
  show Q (.ref g3.objs.size) ⟨u2, g, d, tk3, os⟩
  rw [hsz]
  exact hQ x1 x2 x3 u2 tk3 p1 p2 p3 hZ (up _ _ S.zTO.symm hT3) (D1.frame _ _ _ t1_3 fun c hc o e => up c o (fun q => S.z1 (q ▸ hc)) e) (D2.frame _ _ _ t2_3 fun c hc o e => up c o (fun q => S.z2 (q ▸ hc)) e) (D3.frame _ _ _ t3_3 fun c hc o e => up c o (fun q => S.z3 (q ▸ hc)) e) hN fun c o qz qT q1 q2 q3 e => up c o qz (k3 c o qz qT q1 q2 q3 e)
theorem next_end3 {z TI TO i1 i2 i3 : Addr} {fp1 fp2 fp3 : List Addr} {n : Nat} {P1 P2 P3 : Nat → Value → Prop} {St1 St2 St3 : Nat → Heap → Prop} {a1 a2 a3 : Value} {Q : Fin → Shared → Prop} (hh : A.handled = none) (S : Sep3 z TI TO i1 i2 i3 fp1 fp2 fp3) (D1 : Draws prog w A i1 fp1 n P1 St1) (D2 : Draws prog w A i2 fp2 n P2 St2) (D3 : Draws prog w A i3 fp3 n P3 St3)
    (hz : ZipO s.heap z TI TO .none b) (hTI : TupO s.heap TI #[.ref i1, .ref i2, .ref i3]) (hTO : TupO s.heap TO #[a1, a2, a3]) (st1 : St1 n s.heap) (st2 : St2 n s.heap) (st3 : St3 n s.heap)
    (hE : ∀ h' e, (∀ c o, c ≠ z → c ≠ TO → c ≠ i1 → c ≠ i2 → c ≠ i3 → s.heap.get? c = some o → h'.get? c = some o) → (∃ o, h'.get? e = some o ∧ o.cls = .type "StopIteration") → E (.ref e) { s with heap := h' }) :
    wpAny (model prog w) A (Builtin.«zip.__next__» ⟨[.ref z], []⟩) Q E s := by
  obtain ⟨hp, g, d, tk0, os⟩ := s
  refine wpAny_bind (m := field (.ref z) 2) (wpAny_field hz rfl (x := .bool b) rfl ?_)
  refine wpAny_bind (m := field (.ref z) 3) (wpAny_field hz rfl (x := .ref TI) rfl ?_)
  refine wpAny_bind (wpAny_seqItems hTI rfl ?_)
  show wpAny _ _ (Builtin.SmallTypes.ownedTupleIsFree (.ref z) >>= _) _ _ _
  rw [val_b]
  refine wpAny_bind ?_
  unfold Builtin.SmallTypes.ownedTupleIsFree
  refine wpAny_bind (wpAny_field hz rfl (x := .none) rfl (wpAny_pure ?_))
  simp only [if_true]
  refine wpAny_bind (wpAny_rule (wpAny_bind (wpAny_field hz rfl (x := .ref TO) rfl ?_)))
  refine wpAny_bind (wpAny_setField_rec hz (by simp) fun g0 hz0 hs0 => wpAny_bind ?_)
  replace hs0 : Heap.SameBut z hp g0 := hs0
  replace hz0 : ZipO g0 z TI TO .ellipsis b := hz0
  have t1_0 : St1 n g0 := D1.frame _ _ _ st1 fun c hc o e => hs0.extBut c o (fun q => S.z1 (q ▸ hc)) e
  have t2_0 : St2 n g0 := D2.frame _ _ _ st2 fun c hc o e => hs0.extBut c o (fun q => S.z2 (q ▸ hc)) e
  have t3_0 : St3 n g0 := D3.frame _ _ _ st3 fun c hc o e => hs0.extBut c o (fun q => S.z3 (q ▸ hc)) e
  simp only [List.zipIdx_cons, List.zipIdx_nil, List.forIn_cons, List.forIn_nil]
  refine wpAny_bind (wpAny_bind (wpAny_onRaise ?_))
  cases b with
  | false =>
    refine wpAny_bind (m := Builtin.SmallTypes.nextOf (.ref i1)) (D1.done ⟨g0, g, d, tk0, os⟩ _ _ t1_0 fun y e hy he => ?_)
    replace hy : Heap.ExtBut i1 g0 y := hy
    obtain ⟨oe, hoe, hce⟩ := he
    replace hoe : y.get? e = some oe := hoe
    have hzy : ZipO y z TI TO .ellipsis false := hy _ _ (fun q => S.z1 (q ▸ S.m1)) hz0
    have hez : e ≠ z := fun x => by subst x; rw [hzy] at hoe; cases hoe; simp at hce
    refine wpAny_setField_rec (s := ⟨y, g, d, tk0, os⟩) hzy (by simp) fun y2 _ hv => ?_
    replace hv : Heap.SameBut z y y2 := hv
    exact hE y2 e (fun c o qz qT q1 q2 q3 x => hv.extBut c o qz (hy c o q1 (hs0.extBut c o qz x))) ⟨oe, hv.extBut _ _ hez hoe, hce⟩
  | true =>
    refine zend_strict (s := ⟨g0, g, d, tk0, os⟩) D1 t1_0 fun y hy => ?_
    replace hy : Heap.ExtBut i1 g0 y := hy
    have hzy : ZipO y z TI TO .ellipsis true := hy _ _ (fun q => S.z1 (q ▸ S.m1)) hz0
    have t2_1 : St2 n y := D2.frame _ _ _ t2_0 fun c hc o e => hy c o (fun q => S.s1_2 (q ▸ hc)) e
    have t3_1 : St3 n y := D3.frame _ _ _ t3_0 fun c hc o e => hy c o (fun q => S.s1_3 (q ▸ hc)) e
    refine wpAny_bind (wpAny_setField_rec (s := ⟨y, g, d, tk0, os⟩) hzy (by simp) fun y1 _ hv1 => ?_)
    replace hv1 : Heap.SameBut z y y1 := hv1
    have r2_1 : St2 n y1 := D2.frame _ _ _ t2_1 fun c hc o e => hv1.extBut c o (fun q => S.z2 (q ▸ hc)) e
    have r3_1 : St3 n y1 := D3.frame _ _ _ t3_1 fun c hc o e => hv1.extBut c o (fun q => S.z3 (q ▸ hc)) e
    have k1 : ∀ c o, c ≠ z → c ≠ TO → c ≠ i1 → c ≠ i2 → c ≠ i3 → hp.get? c = some o → y1.get? c = some o := fun c o qz qT q1 q2 q3 e => hv1.extBut c o qz (hy c o q1 (hs0.extBut c o qz e))
    refine wpAny_bind ?_
    refine wpAny_bind ?_
    simp only [List.drop_succ_cons, List.drop_zero, List.zipIdx_cons, List.zipIdx_nil, List.forIn_cons, List.forIn_nil]
    refine wpAny_bind (wpAny_bind (zend_strict (s := ⟨y1, g, d, tk0, os⟩) D2 r2_1 fun y2 hy2 => ?_))
    replace hy2 : Heap.ExtBut i2 y1 y2 := hy2
    have k2 : ∀ c o, c ≠ z → c ≠ TO → c ≠ i1 → c ≠ i2 → c ≠ i3 → hp.get? c = some o → y2.get? c = some o := fun c o qz qT q1 q2 q3 e => hy2 c o q2 (k1 c o qz qT q1 q2 q3 e)
    have r3_2 : St3 n y2 := D3.frame _ _ _ r3_1 fun c hc o e => hy2 c o (fun q => S.s2_3 (q ▸ hc)) e
    refine wpAny_pure ?_
    refine wpAny_bind (wpAny_bind (zend_strict (s := ⟨y2, g, d, tk0, os⟩) D3 r3_2 fun y3 hy3 => ?_))
    replace hy3 : Heap.ExtBut i3 y2 y3 := hy3
    have k3 : ∀ c o, c ≠ z → c ≠ TO → c ≠ i1 → c ≠ i2 → c ≠ i3 → hp.get? c = some o → y3.get? c = some o := fun c o qz qT q1 q2 q3 e => hy3 c o q3 (k2 c o qz qT q1 q2 q3 e)
    refine wpAny_pure ?_
    refine wpAny_pure ?_
    exact wpAny_bind (wpAny_rule (stop_it (s := ⟨y3, g, d, tk0, os⟩) hh fun h2 e kk he => hE h2 e (fun c o qz qT q1 q2 q3 x => kk c o (k3 c o qz qT q1 q2 q3 x)) he))
theorem py_item3 {z TI TO i1 i2 i3 : Addr} {fp1 fp2 fp3 : List Addr} {n1 n2 n3 i : Nat} {P1 P2 P3 : Nat → Value → Prop} {St1 St2 St3 : Nat → Heap → Prop} {a1 a2 a3 : Value} {Q : Option Value → Shared → Prop} (S : Sep3 z TI TO i1 i2 i3 fp1 fp2 fp3) (D1 : Draws prog w A.in1 i1 fp1 n1 P1 St1) (D2 : Draws prog w A.in1 i2 fp2 n2 P2 St2) (D3 : Draws prog w A.in1 i3 fp3 n3 P3 St3)
    (hz : ZipO s.heap z TI TO .none b) (hTI : TupO s.heap TI #[.ref i1, .ref i2, .ref i3]) (hTO : TupO s.heap TO #[a1, a2, a3]) (st1 : St1 i s.heap) (st2 : St2 i s.heap) (st3 : St3 i s.heap) (hi1 : i < n1) (hi2 : i < n2) (hi3 : i < n3)
    (hQ : ∀ x1 x2 x3 h' tk, P1 i x1 → P2 i x2 → P3 i x3 → ZipO h' z TI TO (rawInt s.heap.objs.size) b → TupO h' TO #[x1, x2, x3] → St1 (i + 1) h' → St2 (i + 1) h' → St3 (i + 1) h' → TupO h' s.heap.objs.size #[x1, x2, x3] →
      (∀ c o, c ≠ z → c ≠ TO → c ≠ i1 → c ≠ i2 → c ≠ i3 → s.heap.get? c = some o → h'.get? c = some o) → Q (some (.ref s.heap.objs.size)) { s with heap := h', toks := tk }) : wpAny (model prog w) A (pyNext (.ref z)) Q E s := by
  have hT : s.TypeIs (.ref z) "zip" := ⟨_, hz, rfl⟩
  unfold pyNext
  refine wpAny_bind (wpAny_attempt (wpAny_callSpecial?_slot (name := Str.ofString "__next__") hT F.slot_zip_next (wpAny_call_entry F.slot_zip_next hT F.entry_zip_next ?_ (F.args_zip_next_1 _))))
  exact next_item3 S D1 D2 D3 hz hTI hTO st1 st2 st3 hi1 hi2 hi3 fun x1 x2 x3 h2 tk p1 p2 p3 q1 q2 u1 u2 u3 q3 q4 => wpAny_pure (hQ x1 x2 x3 h2 tk p1 p2 p3 q1 q2 u1 u2 u3 q3 q4)
theorem py_end3 {z TI TO i1 i2 i3 : Addr} {fp1 fp2 fp3 : List Addr} {n : Nat} {P1 P2 P3 : Nat → Value → Prop} {St1 St2 St3 : Nat → Heap → Prop} {a1 a2 a3 : Value} {Q : Option Value → Shared → Prop} (hh : A.handled = none) (S : Sep3 z TI TO i1 i2 i3 fp1 fp2 fp3) (D1 : Draws prog w A.in1 i1 fp1 n P1 St1) (D2 : Draws prog w A.in1 i2 fp2 n P2 St2) (D3 : Draws prog w A.in1 i3 fp3 n P3 St3)
    (hz : ZipO s.heap z TI TO .none b) (hTI : TupO s.heap TI #[.ref i1, .ref i2, .ref i3]) (hTO : TupO s.heap TO #[a1, a2, a3]) (st1 : St1 n s.heap) (st2 : St2 n s.heap) (st3 : St3 n s.heap)
    (hQ : ∀ h', (∀ c o, c ≠ z → c ≠ TO → c ≠ i1 → c ≠ i2 → c ≠ i3 → s.heap.get? c = some o → h'.get? c = some o) → Q none { s with heap := h' }) : wpAny (model prog w) A (pyNext (.ref z)) Q E s := by
  have hT : s.TypeIs (.ref z) "zip" := ⟨_, hz, rfl⟩
  unfold pyNext
  refine wpAny_bind (wpAny_attempt (wpAny_callSpecial?_slot (name := Str.ofString "__next__") hT F.slot_zip_next (wpAny_call_entry F.slot_zip_next hT F.entry_zip_next ?_ (F.args_zip_next_1 _))))
  refine next_end3 (A := A.in1) hh S D1 D2 D3 hz hTI hTO st1 st2 st3 fun h2 e kk he => ?_
  obtain ⟨o, ho, hc⟩ := he
  exact wpAny_bind (wpAny_isInstance (T := "StopIteration") (b := true) ⟨o, ho, hc⟩ isSubtype_stop (wpAny_pure (hQ _ kk)))
theorem typeCall_strict3 (v1 v2 v3 x : Value) : checkTypeCall "zip" ⟨[v1, v2, v3], [(Str.ofString "strict", x)]⟩ = pure () := by kernel_rfl
theorem newCall_strict3 (v1 v2 v3 x : Value) : checkBuiltinCall "zip.__new__" ⟨[.type "zip", v1, v2, v3], [(Str.ofString "strict", x)]⟩ = pure () := by kernel_rfl
theorem initArgs_strict3 (obj v1 v2 v3 x : Value) : argsOk "object.__init__" ⟨[obj, v1, v2, v3], [(Str.ofString "strict", x)]⟩ := by unfold argsOk; kernel_rfl
abbrev sT3 (h : Heap) (o1 o2 o3 : Obj) : Heap := ((((h.push o1).push o2).push o3).push { cls := .type "tuple", data := .seq #[.ref h.objs.size, .ref (h.push o1).objs.size, .ref ((h.push o1).push o2).objs.size] })
abbrev sO3 (h : Heap) (o1 o2 o3 : Obj) : Heap := (sT3 h o1 o2 o3).push { cls := .type "tuple", data := .seq #[.none, .none, .none] }
abbrev sZ3 (h : Heap) (o1 o2 o3 : Obj) : Heap := (sO3 h o1 o2 o3).push { cls := .type "zip", data := .fields #[.none, .bool false, .bool true, .ref (((h.push o1).push o2).push o3).objs.size, .ref (sT3 h o1 o2 o3).objs.size] }
theorem meets_strict3 {v1 v2 v3 : Value} {o1 o2 o3 : Obj} {G1 G2 G3 : Heap → Prop} (B1 : Begins v1 o1 G1) (B2 : Begins v2 o2 G2) (B3 : Begins v3 o3 G3) :
    Meets (Builtin.«zip.__new__» ⟨[.type "zip", v1, v2, v3], [(Str.ofString "strict", .bool true)]⟩) (fun _ R s => (G1 s.heap ∧ G2 s.heap ∧ G3 s.heap) ∧ R (.ok (.ret (.ref (sO3 s.heap o1 o2 o3).objs.size))) { s with heap := (sZ3 s.heap o1 o2 o3) }) :=
  .of_wp fun prog w A R s h => by
    obtain ⟨hp, g, d, tk, os⟩ := s
    obtain ⟨⟨h1, h2, h3⟩, h⟩ := h
    have hsub := sub_zip
    have e1 : (Str.ofString "strict" != ("strict" : Str)) = false := by decide +kernel
    have w1 : ∀ {A' : Around} {E : Value → Shared → Prop} {Q : Value → Shared → Prop}, Q (.ref hp.objs.size) ⟨(hp.push o1), g, d, tk, os⟩ → wpAny (model prog w) A' (pyIter v1) Q E ⟨hp, g, d, tk, os⟩ := fun q => B1.iter prog w _ _ ⟨hp, g, d, tk, os⟩ _ (B1.keeps _ _ h1 fun c u e => e) q
    have w2 : ∀ {A' : Around} {E : Value → Shared → Prop} {Q : Value → Shared → Prop}, Q (.ref (hp.push o1).objs.size) ⟨((hp.push o1).push o2), g, d, tk, os⟩ → wpAny (model prog w) A' (pyIter v2) Q E ⟨(hp.push o1), g, d, tk, os⟩ := fun q => B2.iter prog w _ _ ⟨(hp.push o1), g, d, tk, os⟩ _ (B2.keeps _ _ h2 fun c u e => (Heap.get?_push_of_some _ e)) q
    have w3 : ∀ {A' : Around} {E : Value → Shared → Prop} {Q : Value → Shared → Prop}, Q (.ref ((hp.push o1).push o2).objs.size) ⟨(((hp.push o1).push o2).push o3), g, d, tk, os⟩ → wpAny (model prog w) A' (pyIter v3) Q E ⟨((hp.push o1).push o2), g, d, tk, os⟩ := fun q => B3.iter prog w _ _ ⟨((hp.push o1).push o2), g, d, tk, os⟩ _ (B3.keeps _ _ h3 fun c u e => (Heap.get?_push_of_some _ (Heap.get?_push_of_some _ e))) q
    wp_walk using w1, w2, w3
    exact ⟨_, rfl, h⟩
/-- zip(.., strict=True) of 3: its new cells -/
theorem begins_strict3 {v1 v2 v3 : Value} {o1 o2 o3 : Obj} {G1 G2 G3 : Heap → Prop} {Q : Value → Shared → Prop} (B1 : Begins v1 o1 G1) (B2 : Begins v2 o2 G2) (B3 : Begins v3 o3 G3) (h1 : G1 s.heap) (h2 : G2 s.heap) (h3 : G3 s.heap)
    (h : ∀ h', ZipO h' (s.heap.objs.size + 5) (s.heap.objs.size + 3) (s.heap.objs.size + 4) .none true → TupO h' (s.heap.objs.size + 3) #[.ref s.heap.objs.size, .ref (s.heap.objs.size + 1), .ref (s.heap.objs.size + 2)] → TupO h' (s.heap.objs.size + 4) #[.none, .none, .none] → h'.get? s.heap.objs.size = some o1 → h'.get? (s.heap.objs.size + 1) = some o2 → h'.get? (s.heap.objs.size + 2) = some o3 → (∀ c o, s.heap.get? c = some o → h'.get? c = some o) → Q (.ref (s.heap.objs.size + 5)) { s with heap := h' }) :
    wpAny (model prog w) A (call (.type "zip") [v1, v2, v3] [(Str.ofString "strict", .bool true)]) Q E s := by
  refine callType_newKw F.called_zip (by decide) (typeCall_strict3 _ _ _ _) (newCall_strict3 _ _ _ _) (fun obj => initArgs_strict3 obj _ _ _ _) F.entry_zip_new (meets_strict3 B1 B2 B3) ⟨⟨h1, h2, h3⟩, ?_⟩
  have z1 : (s.heap.push o1).objs.size = s.heap.objs.size + 1 := by rw [Heap.size_push]
  have z2 : ((s.heap.push o1).push o2).objs.size = s.heap.objs.size + 2 := by rw [Heap.size_push, z1]
  have z3 : (((s.heap.push o1).push o2).push o3).objs.size = s.heap.objs.size + 3 := by rw [Heap.size_push, z2]
  have z4 : (sT3 s.heap o1 o2 o3).objs.size = s.heap.objs.size + 4 := by rw [Heap.size_push, z3]
  have z5 : (sO3 s.heap o1 o2 o3).objs.size = s.heap.objs.size + 5 := by rw [Heap.size_push, z4]
  have z6 : (sZ3 s.heap o1 o2 o3).objs.size = s.heap.objs.size + 6 := by rw [Heap.size_push, z5]
  have q0 : (sZ3 s.heap o1 o2 o3).get? s.heap.objs.size = some o1 := (Heap.get?_push_of_some _ (Heap.get?_push_of_some _ (Heap.get?_push_of_some _ (Heap.get?_push_of_some _ (Heap.get?_push_of_some _ (Heap.get?_push_size _ B1.free))))))
  have q1 : (sZ3 s.heap o1 o2 o3).get? (s.heap.push o1).objs.size = some o2 := (Heap.get?_push_of_some _ (Heap.get?_push_of_some _ (Heap.get?_push_of_some _ (Heap.get?_push_of_some _ (Heap.get?_push_size _ B2.free)))))
  rw [z1] at q1
  have q2 : (sZ3 s.heap o1 o2 o3).get? ((s.heap.push o1).push o2).objs.size = some o3 := (Heap.get?_push_of_some _ (Heap.get?_push_of_some _ (Heap.get?_push_of_some _ (Heap.get?_push_size _ B3.free))))
  rw [z2] at q2
  have q3 : (sZ3 s.heap o1 o2 o3).get? (((s.heap.push o1).push o2).push o3).objs.size = some ({ cls := .type "tuple", data := .seq #[.ref s.heap.objs.size, .ref (s.heap.push o1).objs.size, .ref ((s.heap.push o1).push o2).objs.size] } : Obj) := (Heap.get?_push_of_some _ (Heap.get?_push_of_some _ (Heap.get?_push_size _ rfl)))
  rw [z3] at q3
  have q4 : (sZ3 s.heap o1 o2 o3).get? (sT3 s.heap o1 o2 o3).objs.size = some ({ cls := .type "tuple", data := .seq #[.none, .none, .none] } : Obj) := (Heap.get?_push_of_some _ (Heap.get?_push_size _ rfl))
  rw [z4] at q4
  have q5 : (sZ3 s.heap o1 o2 o3).get? (sO3 s.heap o1 o2 o3).objs.size = some ({ cls := .type "zip", data := .fields #[.none, .bool false, .bool true, .ref (((s.heap.push o1).push o2).push o3).objs.size, .ref (sT3 s.heap o1 o2 o3).objs.size] } : Obj) := (Heap.get?_push_size _ rfl)
  rw [z5] at q5
  rw [z2, z1] at q3
  rw [z4, z3] at q5
  show _ ∧ _
  rw [z5]
  exact ⟨⟨_, q5, rfl⟩, h _ q5 q3 q4 q0 q1 q2 fun c o e => (Heap.get?_push_of_some _ (Heap.get?_push_of_some _ (Heap.get?_push_of_some _ (Heap.get?_push_of_some _ (Heap.get?_push_of_some _ (Heap.get?_push_of_some _ e))))))⟩
end
end CZ

namespace CZ
open PySem PySem.Spec PyProof.Rows L2
/-- a list (false) or a tuple (true) that is read -/
def SqK (K : PySem.W.Frag) (H : Hp) (p : Bool × Addr) (xs : List V) : Prop := if p.1 = true then SqT K H p.2 xs else SqL K H p.2 xs
def SqIt (h : Heap) (it : Addr) (p : Bool × Addr) (i : Nat) : Prop := if p.1 = true then h.IsTupleIter it p.2 i else h.IsListIter it p.2 i
def SeqIs (h : Heap) (p : Bool × Addr) (its : List Value) : Prop := if p.1 = true then h.IsTuple p.2 its.toArray else h.IsList p.2 its.toArray
/-- the iterator's object as it begins -/
def itO (p : Bool × Addr) : Obj := if p.1 = true then { cls := .type "tuple_iterator", data := .fields #[.ref p.2, .int 0 0] } else { cls := .type "list_iterator", data := .fields #[.ref p.2, .int 0 0] }
theorem SqIt.at {h h' : Heap} {it : Addr} {p : Bool × Addr} {i : Nat} (x : SqIt h it p i) (k : ∀ o, h.get? it = some o → h'.get? it = some o) : SqIt h' it p i := by
  obtain ⟨b, a⟩ := p
  cases b
  · exact Heap.IsListIter.at (show h.IsListIter it a i from x) k
  · exact Heap.IsTupleIter.at (show h.IsTupleIter it a i from x) k
theorem SqIt.obj {h : Heap} {it : Addr} {p : Bool × Addr} {i : Nat} (x : SqIt h it p i) : ∃ o, h.get? it = some o ∧ ∀ v, o.data ≠ .cell v := by
  obtain ⟨b, a⟩ := p
  cases b
  · obtain ⟨o, e, _, d⟩ := (show h.IsListIter it a i from x)
    exact ⟨o, e, fun v q => by rw [d] at q; cases q⟩
  · obtain ⟨o, e, _, d⟩ := (show h.IsTupleIter it a i from x)
    exact ⟨o, e, fun v q => by rw [d] at q; cases q⟩
theorem SqIt.begin {h : Heap} {it : Addr} {p : Bool × Addr} (e : h.get? it = some (itO p)) : SqIt h it p 0 := by
  obtain ⟨b, a⟩ := p
  cases b
  · exact ⟨_, e, rfl, rfl⟩
  · exact ⟨_, e, rfl, rfl⟩
theorem begins_of (p : Bool × Addr) (its : List Value) : Begins (.ref p.2) (itO p) (fun h => SeqIs h p its) := by
  obtain ⟨b, a⟩ := p
  cases b
  · exact begins_list a its.toArray
  · exact begins_tuple a its.toArray
theorem draws_of {prog : Program} {w : World} {A : Around} (hh : A.handled = none) (it : Addr) (p : Bool × Addr) (ne : p.2 ≠ it) (its : List Value) :
    Draws prog w A it [it, p.2] its.toArray.size (fun i v => its.toArray[i]? = some v) (fun i h => SqIt h it p i ∧ SeqIs h p its) := by
  obtain ⟨b, a⟩ := p
  cases b
  · exact Draws.list hh it a ne its.toArray
  · exact Draws.tuple hh it a ne its.toArray
section
variable {X : Cx} {pins : List (Addr × Obj)} {σ : L2.St} {H : Hp} {s : Shared} {p : Bool × Addr} {xs ys : List V}
theorem sq_seq (I : Inv X pins σ H s) (h : SqK X.K H p xs) : ∃ its : List Value, Vals xs its ∧ SeqIs s.heap p its ∧ p.2 < s.heap.objs.size := by
  obtain ⟨b, a⟩ := p
  cases b
  · obtain ⟨its, rv, q, _⟩ := I.list (show SqL X.K H a xs from h)
    exact ⟨its, rv, q.isList, q.lt⟩
  · obtain ⟨its, rv, q, _⟩ := I.tuple (show SqT X.K H a xs from h)
    obtain ⟨o, ho, _⟩ := id q
    exact ⟨its, rv, q, Heap.lt_size ho⟩
theorem sq_inj (I : Inv X pins σ H s) (h : SqK X.K H p xs) (h2 : SqK X.K H p ys) : xs = ys := by
  obtain ⟨b, a⟩ := p
  cases b
  · exact I.list_inj (show SqL X.K H a xs from h) h2
  · exact I.tuple_inj (show SqT X.K H a xs from h) h2
end
/-- what a zip of lists and tuples of one length gives -/
def ItZ (K : PySem.W.Frag) (l : List (Bool × Addr)) : It :=
  ⟨fun i H => ∃ vs : List V, Paired (fun p v => ∃ xs, SqK K H p xs ∧ xs[i]? = some v) l vs,
    fun i H v H2 => ∃ (T : Addr) (vs : List V), v = .ref T ∧ H T = none ∧ H2 = upd H T (.tup vs) ∧ Paired (fun p v => ∀ xs, SqK K H p xs → xs[i]? = some v) l vs,
    fun i H => ∀ p ∈ l, ∃ xs, SqK K H p xs ∧ xs.length = i⟩
def YRow (xss : List (List V)) : Nat → Hp → V → Hp → Prop := fun i H v H2 => ∃ (T : Addr) (vs : List V), v = .ref T ∧ H T = none ∧ H2 = upd H T (.tup vs) ∧ Paired (fun (xs : List V) v => xs[i]? = some v) xss vs
theorem pair_go {K : PySem.W.Frag} {H : Hp} {i : Nat} : ∀ {l : List (Bool × Addr)} {xss : List (List V)}, Paired (fun p xs => SqK K H p xs) l xss → (∀ xs ∈ xss, i < xs.length) → ∃ vs, Paired (fun p v => ∃ xs, SqK K H p xs ∧ xs[i]? = some v) l vs
  | _, _, .nil, _ => ⟨[], .nil⟩
  | _, _, .cons (b := xs) r t, h => by
    obtain ⟨vs, q⟩ := pair_go t fun ys hy => h ys (List.mem_cons_of_mem _ hy)
    have hi := h xs List.mem_cons_self
    exact ⟨xs[i] :: vs, .cons ⟨xs, r, List.getElem?_eq_getElem hi⟩ q⟩
theorem pair_row {K : PySem.W.Frag} {H : Hp} {i : Nat} : ∀ {l : List (Bool × Addr)} {xss : List (List V)} {vs : List V}, Paired (fun p xs => SqK K H p xs) l xss → Paired (fun p v => ∀ xs, SqK K H p xs → xs[i]? = some v) l vs → Paired (fun (xs : List V) v => xs[i]? = some v) xss vs
  | _, _, _, .nil, .nil => .nil
  | _, _, _, .cons r t, .cons q u => .cons (q _ r) (pair_row t u)
theorem pair_stop {K : PySem.W.Frag} {H : Hp} {n : Nat} : ∀ {l : List (Bool × Addr)} {xss : List (List V)}, Paired (fun p xs => SqK K H p xs) l xss → (∀ xs ∈ xss, xs.length = n) → ∀ p ∈ l, ∃ xs, SqK K H p xs ∧ xs.length = n
  | _, _, .nil, _, _, hp => nomatch hp
  | _, _, .cons r t, h, p, hp => by
    rcases List.mem_cons.mp hp with e | hp
    · rw [e]
      exact ⟨_, r, h _ List.mem_cons_self⟩
    · exact pair_stop t (fun ys hy => h ys (List.mem_cons_of_mem _ hy)) p hp
theorem walk_rows {K : PySem.W.Frag} {l : List (Bool × Addr)} {xss : List (List V)} {n : Nat} (hn : ∀ xs ∈ xss, xs.length = n) : Walk (ItZ K l) n (fun H => Paired (fun p xs => SqK K H p xs) l xss) (YRow xss) :=
  ⟨fun i H hi q => pair_go q fun xs hx => by rw [hn xs hx]; exact hi, fun H q => pair_stop q hn, fun i H x H2 _ q y => by
    obtain ⟨T, vs, h1, h2, h3, h4⟩ := y
    exact ⟨T, vs, h1, h2, h3, pair_row q h4⟩⟩
/-- the reading of zip(..): which are tuples is told by the flags -/
def iZ (K : PySem.W.Frag) (fl : List Bool) (ta : TA) : TI := fun σ H R => ta σ H fun vs H1 => ∃ l : List Addr, vs = l.map V.ref ∧ l.length = fl.length ∧ (∀ p ∈ fl.zip l, ∃ xs, SqK K H1 p xs) ∧ R (ItZ K (fl.zip l)) H1
theorem nin_new {M a : Nat} (j k : Nat) (h : a < M) (hjk : j ≠ k) : M + j ∉ [M + k, a] := by
  simp only [List.mem_cons, List.mem_nil_iff, or_false, not_or]
  omega
theorem looks_ty {M : Model} {h : Heap} (T : String) (_ : True) : ∃ k, (k = Keeper.frame ∨ k = Keeper.machine ∨ k = Keeper.boundFrame) ∧ PySem.W.Looks M h (keeperOf (.type T)) k := ⟨_, .inr (.inl rfl), PySem.W.Looks.of_pure rfl⟩
end CZ

namespace CZ
open PySem PySem.Spec PyProof.Rows L2
theorem turn_z2 {P : Program} {w : World} {K : PySem.W.Frag} {elts : List Expr} {kk : Nat} {tpos : Pos} {z TI TO i1 i2 : Addr} {p1 p2 : Bool × Addr} {b : Bool} (S : Sep2 z TI TO i1 i2 [i1, p1.2] [i2, p2.2]) (ne1 : p1.2 ≠ i1) (ne2 : p2.2 ≠ i2) :
    Turn P w K (.Tuple elts kk tpos) (ItZ K [p1, p2]) [z, TI, TO, i1, i2] z (fun i h => ZipO h z TI TO .none b ∧ TupO h TI #[.ref i1, .ref i2] ∧ (∃ a1 a2, TupO h TO #[a1, a2]) ∧ SqIt h i1 p1 i ∧ SqIt h i2 p2 i) where
  mem := by simp
  obj := fun i h st c hc => by
    obtain ⟨hz, hTI, ⟨a1, a2, hTO⟩, h1, h2⟩ := st
    have e : c = z ∨ c = TI ∨ c = TO ∨ c = i1 ∨ c = i2 := by simpa using hc
    rcases e with q | q | q | q | q
    · rw [q]; exact ⟨_, hz, fun v q => nomatch q⟩
    · rw [q]; exact ⟨_, hTI, fun v q => nomatch q⟩
    · rw [q]; exact ⟨_, hTO, fun v q => nomatch q⟩
    · rw [q]; exact h1.obj
    · rw [q]; exact h2.obj
  keep := fun i h h2 st k => by
    obtain ⟨hz, hTI, ⟨a1, a2, hTO⟩, h1, h2⟩ := st
    exact ⟨k z (by simp) _ hz, k TI (by simp) _ hTI, ⟨a1, a2, k TO (by simp) _ hTO⟩, h1.at fun o q => k i1 (by simp) o q, h2.at fun o q => k i2 (by simp) o q⟩
  item := by
    intro X hP hw hK hc i pins s σ H E I hf st hg
    subst hP hw hK
    obtain ⟨hz, hTI, ⟨a1, a2, hTO⟩, h1, h2⟩ := st
    obtain ⟨vs, hv⟩ := hg
    cases hv with
    | cons r1 hv1 =>
      rename_i v1 ws1
      obtain ⟨xs1, hq1, hx1⟩ := r1
      obtain ⟨its1, rv1, q1, _⟩ := sq_seq I hq1
      obtain ⟨u1, hu1, ru1⟩ := rv1.get hx1
      have g1 : its1.toArray[i]? = some u1 := by simpa using hu1
      have l1 : i < its1.toArray.size := by have := (List.getElem?_eq_some_iff.mp hu1).1; simpa using this
      cases hv1 with
      | cons r2 hv2 =>
        rename_i v2 ws2
        obtain ⟨xs2, hq2, hx2⟩ := r2
        obtain ⟨its2, rv2, q2, _⟩ := sq_seq I hq2
        obtain ⟨u2, hu2, ru2⟩ := rv2.get hx2
        have g2 : its2.toArray[i]? = some u2 := by simpa using hu2
        have l2 : i < its2.toArray.size := by have := (List.getElem?_eq_some_iff.mp hu2).1; simpa using this
        cases hv2
        have hzl : z < s.heap.objs.size := Heap.lt_size hz
        refine py_item2 S (draws_of (A := X.A.in1) (I.ok.hd hc) i1 p1 ne1 its1) (draws_of (A := X.A.in1) (I.ok.hd hc) i2 p2 ne2 its2) hz hTI hTO ⟨h1, q1⟩ ⟨h2, q2⟩ l1 l2 fun x1 x2 hA tk y1 y2 z2 TO2 n1 n2 hT hk => ?_
        obtain rfl : u1 = x1 := Option.some.inj (g1.symm.trans y1)
        obtain rfl : u2 = x2 := Option.some.inj (g2.symm.trans y2)
        refine ⟨_, rfl, go_zip (s := { s with heap := hA, toks := tk }) z2 fun hB z3 sb => ?_⟩
        replace sb : Heap.SameBut z hA hB := sb
        have hT2 : hB.get? s.heap.objs.size = some { cls := .type "tuple", data := .seq #[u1, u2] } := (sb.2 _ (Nat.ne_of_gt hzl)).trans hT
        have new : ObjOk X.prog X.w (upd H s.heap.objs.size (.tup [v1, v2])) hB s.heap.objs.size (.tup [v1, v2]) := ⟨by show 2 ≤ sizeLine; decide, [u1, u2], (.cons ru1 (.cons ru2 .nil)), ⟨_, hT2, rfl, _, rfl⟩⟩
        have I1 : Inv X pins σ (upd H s.heap.objs.size (.tup [v1, v2])) { s with heap := hB, toks := tk } := I.turnedNew (t' := tk) (ch := [z, TI, TO, i1, i2]) (fun c o hb q => (sb.2 c (fun q => hb (by simp [q]))).trans (hk c o (fun q => hb (by simp [q])) (fun q => hb (by simp [q])) (fun q => hb (by simp [q])) (fun q => hb (by simp [q])) q)) hf (Nat.le_refl _) new
        refine ⟨.ref s.heap.objs.size, _, I1, rfl, ⟨_, _, rfl, I.hok.fresh (Nat.le_refl _), rfl, (.cons (fun l hl => by rw [sq_inj I hl hq1]; exact hx1) (.cons (fun l hl => by rw [sq_inj I hl hq2]; exact hx2) .nil))⟩, ⟨z3, (sb.2 _ S.zTI.symm).trans (hk _ _ S.zTI.symm S.TOTI.symm S.I1 S.I2 hTI), ⟨u1, u2, (sb.2 _ S.zTO.symm).trans TO2⟩, (n1.1.at fun o q => (sb.2 _ (fun q => S.z1 (by rw [← q]; exact S.m1))).trans q), (n2.1.at fun o q => (sb.2 _ (fun q => S.z2 (by rw [← q]; exact S.m2))).trans q)⟩, fun c hcm => ?_⟩
        have hlt : c < s.heap.objs.size := by
          have e : c = z ∨ c = TI ∨ c = TO ∨ c = i1 ∨ c = i2 := by simpa using hcm
          rcases e with q | q | q | q | q
          · rw [q]; exact hzl
          · rw [q]; exact Heap.lt_size hTI
          · rw [q]; exact Heap.lt_size hTO
          · rw [q]; obtain ⟨_, e1, _⟩ := h1.obj; exact Heap.lt_size e1
          · rw [q]; obtain ⟨_, e1, _⟩ := h2.obj; exact Heap.lt_size e1
        rw [upd_ne (Nat.ne_of_lt hlt)]
        exact (hf c hcm).1
  done := by
    intro X hP hw hK hc i pins s σ H E I hf st hg
    subst hP hw hK
    obtain ⟨hz, hTI, ⟨a1, a2, hTO⟩, h1, h2⟩ := st
    obtain ⟨xs1, hq1, hx1⟩ := hg p1 (by simp)
    obtain ⟨its1, rv1, q1, _⟩ := sq_seq I hq1
    have l1 : its1.toArray.size = i := by have := rv1.length; simp; omega
    have D1 := draws_of (prog := X.prog) (w := X.w) (A := X.A.in1) (I.ok.hd hc) i1 p1 ne1 its1
    rw [l1] at D1
    obtain ⟨xs2, hq2, hx2⟩ := hg p2 (by simp)
    obtain ⟨its2, rv2, q2, _⟩ := sq_seq I hq2
    have l2 : its2.toArray.size = i := by have := rv2.length; simp; omega
    have D2 := draws_of (prog := X.prog) (w := X.w) (A := X.A.in1) (I.ok.hd hc) i2 p2 ne2 its2
    rw [l2] at D2
    exact py_end2 (I.ok.hd hc) S D1 D2 hz hTI hTO ⟨h1, q1⟩ ⟨h2, q2⟩ fun h2 hk => ⟨rfl, I.turnedL (t' := s.toks) (ch := [z, TI, TO, i1, i2]) (fun c o hb q => hk c o (fun q => hb (by simp [q])) (fun q => hb (by simp [q])) (fun q => hb (by simp [q])) (fun q => hb (by simp [q])) q) hf⟩
  self := fun A i s Q E st h => iter_zip st.1 h
theorem sep_new2 {M : Nat} {p1 p2 : Bool × Addr} (h1 : p1.2 < M) (h2 : p2.2 < M) : Sep2 (M + 4) (M + 2) (M + 3) M (M + 1) [M, p1.2] [M + 1, p2.2] where
  zTO := by show (M + 4 : Nat) ≠ M + 3; omega
  zTI := by show (M + 4 : Nat) ≠ M + 2; omega
  TOTI := by show (M + 3 : Nat) ≠ M + 2; omega
  m1 := by simp
  z1 := nin_new (a := p1.2) 4 0 h1 (by decide)
  T1 := nin_new (a := p1.2) 3 0 h1 (by decide)
  I1 := by show (M + 2 : Nat) ≠ M; omega
  s2_1 := nin_new (a := p1.2) 1 0 h1 (by decide)
  m2 := by simp
  z2 := nin_new (a := p2.2) 4 1 h2 (by decide)
  T2 := nin_new (a := p2.2) 3 1 h2 (by decide)
  I2 := by show (M + 2 : Nat) ≠ M + 1; omega
  s1_2 := nin_new (a := p2.2) 0 1 h2 (by decide)
theorem pi_z2s {X : Cx} {e1 e2 : Expr} {ta : TA} {p pos tpos : Pos} {elts : List Expr} {kk : Nat} {jj : Nat} {kp kp2 : Pos} {fl : List Bool} (hfl : fl.length = 2) (hg : Gl X "zip") (hm : X.mg "zip" = none) (ha : PA X [e1, e2] ta)
    (hs : starEach [e1, e2] X.env = (false, eval e1 X.env) :: starEach [e2] X.env := by rfl) (hpl : (backTo pos (starEach [e2] X.env)).any (·.1) = false := by rfl) :
    PI X (.Tuple elts kk tpos) (.Call (.Name "zip" p) [e1, e2] [⟨some "strict", .Constant (.bool true) jj kp, kp2⟩] pos) (iZ X.K fl ta) := by
  refine ⟨fun pins s σ H R I h => ?_⟩
  refine wpAny_Call_Name_kw (ld_blt I hg hm PyProof.Rows.boot_zip ?_)
  refine PySem.W.callWith_of (P := fun _ => True) ?_ (fun h _ => looks_ty "zip" True.intro) ?_
  · show ((backTo pos (starEach _ X.env)).any (·.1) || false) = false
    rw [hs, Bool.or_false]
    exact hpl
  have he : backTo pos (starEach [e1, e2] X.env) = (false, eval e1 X.env) :: backTo pos (starEach [e2] X.env) := by rw [hs]; rfl
  rw [he]
  refine PyProof.Rows.evalArgs_kwB rfl ?_
  rw [← he]
  refine thn (ha.run pos pins s σ H _ I h) fun us s0 ⟨vs, H1, I0, r1, q1⟩ => ?_
  refine PyProof.Rows.kws_cons (Constant_bool (PyProof.Rows.kws_nil ⟨True.intro, ?_⟩))
  have I1 := I0
  obtain ⟨l, ev, el, hl, q1⟩ := q1
  subst ev
  obtain ⟨b1, b2, rfl⟩ : ∃ b1 b2 : Bool, fl = [b1, b2] := match fl, hfl with | [_, _], _ => ⟨_, _, rfl⟩
  obtain ⟨c1, c2, rfl⟩ : ∃ c1 c2 : Addr, l = [c1, c2] := match l, el with | [_, _], _ => ⟨_, _, rfl⟩
  cases r1 with
  | cons r_1 rr1 =>
    cases r_1
    cases rr1 with
    | cons r_2 rr2 =>
      cases r_2
      cases rr2
      obtain ⟨xs1, hq1⟩ := hl (b1, c1) (by simp)
      obtain ⟨its1, rv1, g1, lt1⟩ := sq_seq I1 hq1
      obtain ⟨xs2, hq2⟩ := hl (b2, c2) (by simp)
      obtain ⟨its2, rv2, g2, lt2⟩ := sq_seq I1 hq2
      have frs : ∀ c, c ∈ [s0.heap.objs.size + 4, s0.heap.objs.size + 2, s0.heap.objs.size + 3, s0.heap.objs.size, s0.heap.objs.size + 1] → FpOk X pins H1 c := fun c hcm => by
        have e : c = s0.heap.objs.size + 4 ∨ c = s0.heap.objs.size + 2 ∨ c = s0.heap.objs.size + 3 ∨ c = s0.heap.objs.size ∨ c = s0.heap.objs.size + 1 := by simpa using hcm
        have hle : s0.heap.objs.size ≤ c := by
          rcases e with q | q | q | q | q
          · rw [q]; exact Nat.le_add_right _ _
          · rw [q]; exact Nat.le_add_right _ _
          · rw [q]; exact Nat.le_add_right _ _
          · rw [q]; exact Nat.le_refl _
          · rw [q]; exact Nat.le_add_right _ _
        exact I1.fpOk hle (I1.hok.fresh hle)
      refine begins_strict2 (begins_of (b1, c1) its1) (begins_of (b2, c2) its2) g1 g2 fun hA hz hTI hTO y1 y2 kk => iter_zip hz ?_
      have I2 : Inv X pins σ H1 { s0 with heap := hA } := I1.kept (t' := s0.toks) kk
      exact ⟨_, [s0.heap.objs.size + 4, s0.heap.objs.size + 2, s0.heap.objs.size + 3, s0.heap.objs.size, s0.heap.objs.size + 1], _, _, H1, rfl, I2, turn_z2 (sep_new2 lt1 lt2) (Nat.ne_of_lt lt1) (Nat.ne_of_lt (Nat.lt_of_lt_of_le lt2 (Nat.le_add_right _ 1))), ⟨hz, hTI, ⟨_, _, hTO⟩, SqIt.begin y1, SqIt.begin y2⟩, frs, q1⟩
theorem pi_z2 {X : Cx} {e1 e2 : Expr} {ta : TA} {p pos tpos : Pos} {elts : List Expr} {kk : Nat} {fl : List Bool} (hfl : fl.length = 2) (hg : Gl X "zip") (hm : X.mg "zip" = none) (ha : PA X [e1, e2] ta)
    (hs : starEach [e1, e2] X.env = (false, eval e1 X.env) :: starEach [e2] X.env := by rfl) (hpl : (backTo pos (starEach [e2] X.env)).any (·.1) = false := by rfl) :
    PI X (.Tuple elts kk tpos) (.Call (.Name "zip" p) [e1, e2] [] pos) (iZ X.K fl ta) := by
  refine ⟨fun pins s σ H R I h => ?_⟩
  refine Call_ (ld_blt I hg hm PyProof.Rows.boot_zip (PyProof.Rows.callWith_type1 (thn (ha.run pos pins s σ H _ I h) fun us s0 ⟨vs, H1, I1, r1, q1⟩ => ?_) hs hpl))
  obtain ⟨l, ev, el, hl, q1⟩ := q1
  subst ev
  obtain ⟨b1, b2, rfl⟩ : ∃ b1 b2 : Bool, fl = [b1, b2] := match fl, hfl with | [_, _], _ => ⟨_, _, rfl⟩
  obtain ⟨c1, c2, rfl⟩ : ∃ c1 c2 : Addr, l = [c1, c2] := match l, el with | [_, _], _ => ⟨_, _, rfl⟩
  cases r1 with
  | cons r_1 rr1 =>
    cases r_1
    cases rr1 with
    | cons r_2 rr2 =>
      cases r_2
      cases rr2
      obtain ⟨xs1, hq1⟩ := hl (b1, c1) (by simp)
      obtain ⟨its1, rv1, g1, lt1⟩ := sq_seq I1 hq1
      obtain ⟨xs2, hq2⟩ := hl (b2, c2) (by simp)
      obtain ⟨its2, rv2, g2, lt2⟩ := sq_seq I1 hq2
      have frs : ∀ c, c ∈ [s0.heap.objs.size + 4, s0.heap.objs.size + 2, s0.heap.objs.size + 3, s0.heap.objs.size, s0.heap.objs.size + 1] → FpOk X pins H1 c := fun c hcm => by
        have e : c = s0.heap.objs.size + 4 ∨ c = s0.heap.objs.size + 2 ∨ c = s0.heap.objs.size + 3 ∨ c = s0.heap.objs.size ∨ c = s0.heap.objs.size + 1 := by simpa using hcm
        have hle : s0.heap.objs.size ≤ c := by
          rcases e with q | q | q | q | q
          · rw [q]; exact Nat.le_add_right _ _
          · rw [q]; exact Nat.le_add_right _ _
          · rw [q]; exact Nat.le_add_right _ _
          · rw [q]; exact Nat.le_refl _
          · rw [q]; exact Nat.le_add_right _ _
        exact I1.fpOk hle (I1.hok.fresh hle)
      refine zip_begins2 (begins_of (b1, c1) its1) (begins_of (b2, c2) its2) g1 g2 fun hA hz hTI hTO y1 y2 _ kk => iter_zip (b := false) hz ?_
      have I2 : Inv X pins σ H1 { s0 with heap := hA } := I1.kept (t' := s0.toks) kk
      exact ⟨_, [s0.heap.objs.size + 4, s0.heap.objs.size + 2, s0.heap.objs.size + 3, s0.heap.objs.size, s0.heap.objs.size + 1], _, _, H1, rfl, I2, turn_z2 (sep_new2 lt1 lt2) (Nat.ne_of_lt lt1) (Nat.ne_of_lt (Nat.lt_of_lt_of_le lt2 (Nat.le_add_right _ 1))), ⟨hz, hTI, ⟨_, _, hTO⟩, SqIt.begin y1, SqIt.begin y2⟩, frs, q1⟩
theorem turn_z3 {P : Program} {w : World} {K : PySem.W.Frag} {elts : List Expr} {kk : Nat} {tpos : Pos} {z TI TO i1 i2 i3 : Addr} {p1 p2 p3 : Bool × Addr} {b : Bool} (S : Sep3 z TI TO i1 i2 i3 [i1, p1.2] [i2, p2.2] [i3, p3.2]) (ne1 : p1.2 ≠ i1) (ne2 : p2.2 ≠ i2) (ne3 : p3.2 ≠ i3) :
    Turn P w K (.Tuple elts kk tpos) (ItZ K [p1, p2, p3]) [z, TI, TO, i1, i2, i3] z (fun i h => ZipO h z TI TO .none b ∧ TupO h TI #[.ref i1, .ref i2, .ref i3] ∧ (∃ a1 a2 a3, TupO h TO #[a1, a2, a3]) ∧ SqIt h i1 p1 i ∧ SqIt h i2 p2 i ∧ SqIt h i3 p3 i) where
  mem := by simp
  obj := fun i h st c hc => by
    obtain ⟨hz, hTI, ⟨a1, a2, a3, hTO⟩, h1, h2, h3⟩ := st
    have e : c = z ∨ c = TI ∨ c = TO ∨ c = i1 ∨ c = i2 ∨ c = i3 := by simpa using hc
    rcases e with q | q | q | q | q | q
    · rw [q]; exact ⟨_, hz, fun v q => nomatch q⟩
    · rw [q]; exact ⟨_, hTI, fun v q => nomatch q⟩
    · rw [q]; exact ⟨_, hTO, fun v q => nomatch q⟩
    · rw [q]; exact h1.obj
    · rw [q]; exact h2.obj
    · rw [q]; exact h3.obj
  keep := fun i h h2 st k => by
    obtain ⟨hz, hTI, ⟨a1, a2, a3, hTO⟩, h1, h2, h3⟩ := st
    exact ⟨k z (by simp) _ hz, k TI (by simp) _ hTI, ⟨a1, a2, a3, k TO (by simp) _ hTO⟩, h1.at fun o q => k i1 (by simp) o q, h2.at fun o q => k i2 (by simp) o q, h3.at fun o q => k i3 (by simp) o q⟩
  item := by
    intro X hP hw hK hc i pins s σ H E I hf st hg
    subst hP hw hK
    obtain ⟨hz, hTI, ⟨a1, a2, a3, hTO⟩, h1, h2, h3⟩ := st
    obtain ⟨vs, hv⟩ := hg
    cases hv with
    | cons r1 hv1 =>
      rename_i v1 ws1
      obtain ⟨xs1, hq1, hx1⟩ := r1
      obtain ⟨its1, rv1, q1, _⟩ := sq_seq I hq1
      obtain ⟨u1, hu1, ru1⟩ := rv1.get hx1
      have g1 : its1.toArray[i]? = some u1 := by simpa using hu1
      have l1 : i < its1.toArray.size := by have := (List.getElem?_eq_some_iff.mp hu1).1; simpa using this
      cases hv1 with
      | cons r2 hv2 =>
        rename_i v2 ws2
        obtain ⟨xs2, hq2, hx2⟩ := r2
        obtain ⟨its2, rv2, q2, _⟩ := sq_seq I hq2
        obtain ⟨u2, hu2, ru2⟩ := rv2.get hx2
        have g2 : its2.toArray[i]? = some u2 := by simpa using hu2
        have l2 : i < its2.toArray.size := by have := (List.getElem?_eq_some_iff.mp hu2).1; simpa using this
        cases hv2 with
        | cons r3 hv3 =>
          rename_i v3 ws3
          obtain ⟨xs3, hq3, hx3⟩ := r3
          obtain ⟨its3, rv3, q3, _⟩ := sq_seq I hq3
          obtain ⟨u3, hu3, ru3⟩ := rv3.get hx3
          have g3 : its3.toArray[i]? = some u3 := by simpa using hu3
          have l3 : i < its3.toArray.size := by have := (List.getElem?_eq_some_iff.mp hu3).1; simpa using this
          cases hv3
          have hzl : z < s.heap.objs.size := Heap.lt_size hz
          refine py_item3 S (draws_of (A := X.A.in1) (I.ok.hd hc) i1 p1 ne1 its1) (draws_of (A := X.A.in1) (I.ok.hd hc) i2 p2 ne2 its2) (draws_of (A := X.A.in1) (I.ok.hd hc) i3 p3 ne3 its3) hz hTI hTO ⟨h1, q1⟩ ⟨h2, q2⟩ ⟨h3, q3⟩ l1 l2 l3 fun x1 x2 x3 hA tk y1 y2 y3 z2 TO2 n1 n2 n3 hT hk => ?_
          obtain rfl : u1 = x1 := Option.some.inj (g1.symm.trans y1)
          obtain rfl : u2 = x2 := Option.some.inj (g2.symm.trans y2)
          obtain rfl : u3 = x3 := Option.some.inj (g3.symm.trans y3)
          refine ⟨_, rfl, go_zip (s := { s with heap := hA, toks := tk }) z2 fun hB z3 sb => ?_⟩
          replace sb : Heap.SameBut z hA hB := sb
          have hT2 : hB.get? s.heap.objs.size = some { cls := .type "tuple", data := .seq #[u1, u2, u3] } := (sb.2 _ (Nat.ne_of_gt hzl)).trans hT
          have new : ObjOk X.prog X.w (upd H s.heap.objs.size (.tup [v1, v2, v3])) hB s.heap.objs.size (.tup [v1, v2, v3]) := ⟨by show 3 ≤ sizeLine; decide, [u1, u2, u3], (.cons ru1 (.cons ru2 (.cons ru3 .nil))), ⟨_, hT2, rfl, _, rfl⟩⟩
          have I1 : Inv X pins σ (upd H s.heap.objs.size (.tup [v1, v2, v3])) { s with heap := hB, toks := tk } := I.turnedNew (t' := tk) (ch := [z, TI, TO, i1, i2, i3]) (fun c o hb q => (sb.2 c (fun q => hb (by simp [q]))).trans (hk c o (fun q => hb (by simp [q])) (fun q => hb (by simp [q])) (fun q => hb (by simp [q])) (fun q => hb (by simp [q])) (fun q => hb (by simp [q])) q)) hf (Nat.le_refl _) new
          refine ⟨.ref s.heap.objs.size, _, I1, rfl, ⟨_, _, rfl, I.hok.fresh (Nat.le_refl _), rfl, (.cons (fun l hl => by rw [sq_inj I hl hq1]; exact hx1) (.cons (fun l hl => by rw [sq_inj I hl hq2]; exact hx2) (.cons (fun l hl => by rw [sq_inj I hl hq3]; exact hx3) .nil)))⟩, ⟨z3, (sb.2 _ S.zTI.symm).trans (hk _ _ S.zTI.symm S.TOTI.symm S.I1 S.I2 S.I3 hTI), ⟨u1, u2, u3, (sb.2 _ S.zTO.symm).trans TO2⟩, (n1.1.at fun o q => (sb.2 _ (fun q => S.z1 (by rw [← q]; exact S.m1))).trans q), (n2.1.at fun o q => (sb.2 _ (fun q => S.z2 (by rw [← q]; exact S.m2))).trans q), (n3.1.at fun o q => (sb.2 _ (fun q => S.z3 (by rw [← q]; exact S.m3))).trans q)⟩, fun c hcm => ?_⟩
          have hlt : c < s.heap.objs.size := by
            have e : c = z ∨ c = TI ∨ c = TO ∨ c = i1 ∨ c = i2 ∨ c = i3 := by simpa using hcm
            rcases e with q | q | q | q | q | q
            · rw [q]; exact hzl
            · rw [q]; exact Heap.lt_size hTI
            · rw [q]; exact Heap.lt_size hTO
            · rw [q]; obtain ⟨_, e1, _⟩ := h1.obj; exact Heap.lt_size e1
            · rw [q]; obtain ⟨_, e1, _⟩ := h2.obj; exact Heap.lt_size e1
            · rw [q]; obtain ⟨_, e1, _⟩ := h3.obj; exact Heap.lt_size e1
          rw [upd_ne (Nat.ne_of_lt hlt)]
          exact (hf c hcm).1
  done := by
    intro X hP hw hK hc i pins s σ H E I hf st hg
    subst hP hw hK
    obtain ⟨hz, hTI, ⟨a1, a2, a3, hTO⟩, h1, h2, h3⟩ := st
    obtain ⟨xs1, hq1, hx1⟩ := hg p1 (by simp)
    obtain ⟨its1, rv1, q1, _⟩ := sq_seq I hq1
    have l1 : its1.toArray.size = i := by have := rv1.length; simp; omega
    have D1 := draws_of (prog := X.prog) (w := X.w) (A := X.A.in1) (I.ok.hd hc) i1 p1 ne1 its1
    rw [l1] at D1
    obtain ⟨xs2, hq2, hx2⟩ := hg p2 (by simp)
    obtain ⟨its2, rv2, q2, _⟩ := sq_seq I hq2
    have l2 : its2.toArray.size = i := by have := rv2.length; simp; omega
    have D2 := draws_of (prog := X.prog) (w := X.w) (A := X.A.in1) (I.ok.hd hc) i2 p2 ne2 its2
    rw [l2] at D2
    obtain ⟨xs3, hq3, hx3⟩ := hg p3 (by simp)
    obtain ⟨its3, rv3, q3, _⟩ := sq_seq I hq3
    have l3 : its3.toArray.size = i := by have := rv3.length; simp; omega
    have D3 := draws_of (prog := X.prog) (w := X.w) (A := X.A.in1) (I.ok.hd hc) i3 p3 ne3 its3
    rw [l3] at D3
    exact py_end3 (I.ok.hd hc) S D1 D2 D3 hz hTI hTO ⟨h1, q1⟩ ⟨h2, q2⟩ ⟨h3, q3⟩ fun h2 hk => ⟨rfl, I.turnedL (t' := s.toks) (ch := [z, TI, TO, i1, i2, i3]) (fun c o hb q => hk c o (fun q => hb (by simp [q])) (fun q => hb (by simp [q])) (fun q => hb (by simp [q])) (fun q => hb (by simp [q])) (fun q => hb (by simp [q])) q) hf⟩
  self := fun A i s Q E st h => iter_zip st.1 h
theorem sep_new3 {M : Nat} {p1 p2 p3 : Bool × Addr} (h1 : p1.2 < M) (h2 : p2.2 < M) (h3 : p3.2 < M) : Sep3 (M + 5) (M + 3) (M + 4) M (M + 1) (M + 2) [M, p1.2] [M + 1, p2.2] [M + 2, p3.2] where
  zTO := by show (M + 5 : Nat) ≠ M + 4; omega
  zTI := by show (M + 5 : Nat) ≠ M + 3; omega
  TOTI := by show (M + 4 : Nat) ≠ M + 3; omega
  m1 := by simp
  z1 := nin_new (a := p1.2) 5 0 h1 (by decide)
  T1 := nin_new (a := p1.2) 4 0 h1 (by decide)
  I1 := by show (M + 3 : Nat) ≠ M; omega
  s2_1 := nin_new (a := p1.2) 1 0 h1 (by decide)
  s3_1 := nin_new (a := p1.2) 2 0 h1 (by decide)
  m2 := by simp
  z2 := nin_new (a := p2.2) 5 1 h2 (by decide)
  T2 := nin_new (a := p2.2) 4 1 h2 (by decide)
  I2 := by show (M + 3 : Nat) ≠ M + 1; omega
  s1_2 := nin_new (a := p2.2) 0 1 h2 (by decide)
  s3_2 := nin_new (a := p2.2) 2 1 h2 (by decide)
  m3 := by simp
  z3 := nin_new (a := p3.2) 5 2 h3 (by decide)
  T3 := nin_new (a := p3.2) 4 2 h3 (by decide)
  I3 := by show (M + 3 : Nat) ≠ M + 2; omega
  s1_3 := nin_new (a := p3.2) 0 2 h3 (by decide)
  s2_3 := nin_new (a := p3.2) 1 2 h3 (by decide)
theorem pi_z3s {X : Cx} {e1 e2 e3 : Expr} {ta : TA} {p pos tpos : Pos} {elts : List Expr} {kk : Nat} {jj : Nat} {kp kp2 : Pos} {fl : List Bool} (hfl : fl.length = 3) (hg : Gl X "zip") (hm : X.mg "zip" = none) (ha : PA X [e1, e2, e3] ta)
    (hs : starEach [e1, e2, e3] X.env = (false, eval e1 X.env) :: starEach [e2, e3] X.env := by rfl) (hpl : (backTo pos (starEach [e2, e3] X.env)).any (·.1) = false := by rfl) :
    PI X (.Tuple elts kk tpos) (.Call (.Name "zip" p) [e1, e2, e3] [⟨some "strict", .Constant (.bool true) jj kp, kp2⟩] pos) (iZ X.K fl ta) := by
  refine ⟨fun pins s σ H R I h => ?_⟩
  refine wpAny_Call_Name_kw (ld_blt I hg hm PyProof.Rows.boot_zip ?_)
  refine PySem.W.callWith_of (P := fun _ => True) ?_ (fun h _ => looks_ty "zip" True.intro) ?_
  · show ((backTo pos (starEach _ X.env)).any (·.1) || false) = false
    rw [hs, Bool.or_false]
    exact hpl
  have he : backTo pos (starEach [e1, e2, e3] X.env) = (false, eval e1 X.env) :: backTo pos (starEach [e2, e3] X.env) := by rw [hs]; rfl
  rw [he]
  refine PyProof.Rows.evalArgs_kwB rfl ?_
  rw [← he]
  refine thn (ha.run pos pins s σ H _ I h) fun us s0 ⟨vs, H1, I0, r1, q1⟩ => ?_
  refine PyProof.Rows.kws_cons (Constant_bool (PyProof.Rows.kws_nil ⟨True.intro, ?_⟩))
  have I1 := I0
  obtain ⟨l, ev, el, hl, q1⟩ := q1
  subst ev
  obtain ⟨b1, b2, b3, rfl⟩ : ∃ b1 b2 b3 : Bool, fl = [b1, b2, b3] := match fl, hfl with | [_, _, _], _ => ⟨_, _, _, rfl⟩
  obtain ⟨c1, c2, c3, rfl⟩ : ∃ c1 c2 c3 : Addr, l = [c1, c2, c3] := match l, el with | [_, _, _], _ => ⟨_, _, _, rfl⟩
  cases r1 with
  | cons r_1 rr1 =>
    cases r_1
    cases rr1 with
    | cons r_2 rr2 =>
      cases r_2
      cases rr2 with
      | cons r_3 rr3 =>
        cases r_3
        cases rr3
        obtain ⟨xs1, hq1⟩ := hl (b1, c1) (by simp)
        obtain ⟨its1, rv1, g1, lt1⟩ := sq_seq I1 hq1
        obtain ⟨xs2, hq2⟩ := hl (b2, c2) (by simp)
        obtain ⟨its2, rv2, g2, lt2⟩ := sq_seq I1 hq2
        obtain ⟨xs3, hq3⟩ := hl (b3, c3) (by simp)
        obtain ⟨its3, rv3, g3, lt3⟩ := sq_seq I1 hq3
        have frs : ∀ c, c ∈ [s0.heap.objs.size + 5, s0.heap.objs.size + 3, s0.heap.objs.size + 4, s0.heap.objs.size, s0.heap.objs.size + 1, s0.heap.objs.size + 2] → FpOk X pins H1 c := fun c hcm => by
          have e : c = s0.heap.objs.size + 5 ∨ c = s0.heap.objs.size + 3 ∨ c = s0.heap.objs.size + 4 ∨ c = s0.heap.objs.size ∨ c = s0.heap.objs.size + 1 ∨ c = s0.heap.objs.size + 2 := by simpa using hcm
          have hle : s0.heap.objs.size ≤ c := by
            rcases e with q | q | q | q | q | q
            · rw [q]; exact Nat.le_add_right _ _
            · rw [q]; exact Nat.le_add_right _ _
            · rw [q]; exact Nat.le_add_right _ _
            · rw [q]; exact Nat.le_refl _
            · rw [q]; exact Nat.le_add_right _ _
            · rw [q]; exact Nat.le_add_right _ _
          exact I1.fpOk hle (I1.hok.fresh hle)
        refine begins_strict3 (begins_of (b1, c1) its1) (begins_of (b2, c2) its2) (begins_of (b3, c3) its3) g1 g2 g3 fun hA hz hTI hTO y1 y2 y3 kk => iter_zip hz ?_
        have I2 : Inv X pins σ H1 { s0 with heap := hA } := I1.kept (t' := s0.toks) kk
        exact ⟨_, [s0.heap.objs.size + 5, s0.heap.objs.size + 3, s0.heap.objs.size + 4, s0.heap.objs.size, s0.heap.objs.size + 1, s0.heap.objs.size + 2], _, _, H1, rfl, I2, turn_z3 (sep_new3 lt1 lt2 lt3) (Nat.ne_of_lt lt1) (Nat.ne_of_lt (Nat.lt_of_lt_of_le lt2 (Nat.le_add_right _ 1))) (Nat.ne_of_lt (Nat.lt_of_lt_of_le lt3 (Nat.le_add_right _ 2))), ⟨hz, hTI, ⟨_, _, _, hTO⟩, SqIt.begin y1, SqIt.begin y2, SqIt.begin y3⟩, frs, q1⟩
theorem pi_z3 {X : Cx} {e1 e2 e3 : Expr} {ta : TA} {p pos tpos : Pos} {elts : List Expr} {kk : Nat} {fl : List Bool} (hfl : fl.length = 3) (hg : Gl X "zip") (hm : X.mg "zip" = none) (ha : PA X [e1, e2, e3] ta)
    (hs : starEach [e1, e2, e3] X.env = (false, eval e1 X.env) :: starEach [e2, e3] X.env := by rfl) (hpl : (backTo pos (starEach [e2, e3] X.env)).any (·.1) = false := by rfl) :
    PI X (.Tuple elts kk tpos) (.Call (.Name "zip" p) [e1, e2, e3] [] pos) (iZ X.K fl ta) := by
  refine ⟨fun pins s σ H R I h => ?_⟩
  refine Call_ (ld_blt I hg hm PyProof.Rows.boot_zip (PyProof.Rows.callWith_type1 (thn (ha.run pos pins s σ H _ I h) fun us s0 ⟨vs, H1, I1, r1, q1⟩ => ?_) hs hpl))
  obtain ⟨l, ev, el, hl, q1⟩ := q1
  subst ev
  obtain ⟨b1, b2, b3, rfl⟩ : ∃ b1 b2 b3 : Bool, fl = [b1, b2, b3] := match fl, hfl with | [_, _, _], _ => ⟨_, _, _, rfl⟩
  obtain ⟨c1, c2, c3, rfl⟩ : ∃ c1 c2 c3 : Addr, l = [c1, c2, c3] := match l, el with | [_, _, _], _ => ⟨_, _, _, rfl⟩
  cases r1 with
  | cons r_1 rr1 =>
    cases r_1
    cases rr1 with
    | cons r_2 rr2 =>
      cases r_2
      cases rr2 with
      | cons r_3 rr3 =>
        cases r_3
        cases rr3
        obtain ⟨xs1, hq1⟩ := hl (b1, c1) (by simp)
        obtain ⟨its1, rv1, g1, lt1⟩ := sq_seq I1 hq1
        obtain ⟨xs2, hq2⟩ := hl (b2, c2) (by simp)
        obtain ⟨its2, rv2, g2, lt2⟩ := sq_seq I1 hq2
        obtain ⟨xs3, hq3⟩ := hl (b3, c3) (by simp)
        obtain ⟨its3, rv3, g3, lt3⟩ := sq_seq I1 hq3
        have frs : ∀ c, c ∈ [s0.heap.objs.size + 5, s0.heap.objs.size + 3, s0.heap.objs.size + 4, s0.heap.objs.size, s0.heap.objs.size + 1, s0.heap.objs.size + 2] → FpOk X pins H1 c := fun c hcm => by
          have e : c = s0.heap.objs.size + 5 ∨ c = s0.heap.objs.size + 3 ∨ c = s0.heap.objs.size + 4 ∨ c = s0.heap.objs.size ∨ c = s0.heap.objs.size + 1 ∨ c = s0.heap.objs.size + 2 := by simpa using hcm
          have hle : s0.heap.objs.size ≤ c := by
            rcases e with q | q | q | q | q | q
            · rw [q]; exact Nat.le_add_right _ _
            · rw [q]; exact Nat.le_add_right _ _
            · rw [q]; exact Nat.le_add_right _ _
            · rw [q]; exact Nat.le_refl _
            · rw [q]; exact Nat.le_add_right _ _
            · rw [q]; exact Nat.le_add_right _ _
          exact I1.fpOk hle (I1.hok.fresh hle)
        refine zip_begins3 (begins_of (b1, c1) its1) (begins_of (b2, c2) its2) (begins_of (b3, c3) its3) g1 g2 g3 fun hA hz hTI hTO y1 y2 y3 _ kk => iter_zip (b := false) hz ?_
        have I2 : Inv X pins σ H1 { s0 with heap := hA } := I1.kept (t' := s0.toks) kk
        exact ⟨_, [s0.heap.objs.size + 5, s0.heap.objs.size + 3, s0.heap.objs.size + 4, s0.heap.objs.size, s0.heap.objs.size + 1, s0.heap.objs.size + 2], _, _, H1, rfl, I2, turn_z3 (sep_new3 lt1 lt2 lt3) (Nat.ne_of_lt lt1) (Nat.ne_of_lt (Nat.lt_of_lt_of_le lt2 (Nat.le_add_right _ 1))) (Nat.ne_of_lt (Nat.lt_of_lt_of_le lt3 (Nat.le_add_right _ 2))), ⟨hz, hTI, ⟨_, _, _, hTO⟩, SqIt.begin y1, SqIt.begin y2, SqIt.begin y3⟩, frs, q1⟩
end CZ

namespace CS
open PySem PySem.Spec PyProof.Rows L2
/-! ### rules beside the layer's -/
section
variable {X : Cx}
/-- a product, whatever the reason that it fits -/
theorem op_mulI : OpR X (binaryOp .Mult) (rI IntMulOk fun i j => .int (i * j)) := opI fun _ _ _ _ _ _ _ hc q => mul_int q hc
/-- list + list, however each is known -/
def rCatR (K : PySem.W.Frag) : R2 := fun x y H Q => ∃ l b xs zs, x = .ref l ∧ y = .ref b ∧ SqL K H l xs ∧ SqL K H b zs ∧ xs.length + zs.length ≤ sizeLine ∧ ∀ p, H p = none → Q (.ref p) (upd H p (.lst (xs ++ zs)))
theorem op_catR : OpR X (binaryOp .Add) (rCatR X.K) := by
  intro pins s σ H x y v u Q I rx ry h
  obtain ⟨l, b, xs, zs, rfl, rfl, hH, hB, hz, q⟩ := h
  cases rx
  cases ry
  obtain ⟨its, r, p1, _⟩ := I.list hH
  obtain ⟨its2, r2, p2, _⟩ := I.list hB
  obtain ⟨⟨cls, dd, data, sl⟩, ho, hc, n, hd⟩ := id p1.isList
  obtain ⟨⟨cls2, dd2, data2, sl2⟩, ho2, hc2, n2, hd2⟩ := id p2.isList
  simp only at hc hd hc2 hd2
  subst hc hd hc2 hd2
  have l1 := r.length
  have l2 := r2.length
  have ea : its.toArray ++ its2.toArray = (its ++ its2).toArray := by simp
  refine concat_meets ⟨_, ho, rfl⟩ ⟨_, ho2, rfl⟩ noFill_list_add seq_list_add PySem.F.slot_list_add PySem.F.entry_list_add (PySem.F.args_list_add_2 _ _) (list_addW l b its.toArray its2.toArray n n2 dd dd2 sl sl2 (by rw [List.size_toArray, List.size_toArray]; omega)) ⟨ho, ho2, ?_⟩
  rw [ea]
  exact ⟨.ref _, _, I.lnew (t' := s.toks) (r.append r2) (by rw [List.length_append]; omega), rfl, q _ I.fresh⟩
theorem pi_or {tg it : Expr} {w1 w2 : TI} (h1 : PI X tg it w1) (h2 : PI X tg it w2) : PI X tg it (fun σ H R => w1 σ H R ∨ w2 σ H R) :=
  ⟨fun pins s σ H R I h => h.elim (fun z => h1.run pins s σ H R I z) fun z => h2.run pins s σ H R I z⟩
end
/-! ### calls by keywords alone -/
def pick {α : Type} (js : List Nat) (l : List α) : List α := js.filterMap fun j => l[j]?
theorem vals_pick {xs : List V} {us : List Value} (r : Vals xs us) : ∀ js : List Nat, Vals (pick js xs) (pick js us)
  | [] => .nil
  | j :: js => by
    have ih := vals_pick r js
    unfold pick at ih ⊢
    cases e : xs[j]? with
    | none =>
      have e2 := r.none_of e
      rw [List.filterMap_cons_none (by rw [e]), List.filterMap_cons_none (by rw [e2])]
      exact ih
    | some x =>
      obtain ⟨u, e2, ru⟩ := r.get e
      rw [List.filterMap_cons_some (by rw [e]), List.filterMap_cons_some (by rw [e2])]
      exact .cons ru ih
theorem kbn_of {K : PySem.W.Frag} {x qual : Str} {st : Stmt} {f : Addr} {fd : FuncData} {ps : List Str} (F : Fun K x qual st f fd) (n : Nat) (ks : List Str) (js : List Nat)
    (h : ∀ (kV doc pm : Value) (an : Option Addr) (cdv ct : Value) (us ws : List Value), us.length = n → ws.length = ks.length → bindArgs (PySem.W.fnOf x qual (defArgs st) (defBody st) (defScope st) .none kV doc pm an cdv ct) ⟨us, ks.zip ws⟩ = pure (ps.zip (pick js (us ++ ws)))) :
    KBn K fd ps n ks (fun us ws => pick js (us ++ ws)) (fun vs zs => pick js (vs ++ zs)) := by
  obtain ⟨oc, od, kV, doc, pm, an, cdv, ct, osl, rfl, lk, hcd⟩ := F.ex
  exact ⟨fun s us ws _ h1 h2 => .of_eq (h kV doc pm an cdv ct us ws h1 h2), fun r1 r2 => vals_pick (r1.append r2) js⟩
section
variable {X : Cx} {CX : CXT} {k n : Nat} {f C : Addr} {fd : FuncData} {ps ks : List Str} {sp : Sp} {E : XK} {x m : Str} {p pos apos : Pos} {o : Expr} {kws : List Keyword} {ta : TE} {tk : TA} {g : List Value → List Value → List Value} {gV : List V → List V → List V}
theorem run_kw {pins : List (Addr × Obj)} {σ : L2.St} {H : Hp} {s : Shared} {Q : VK} {us ws : List Value} {vs zs : List V} (F : FnOk X.prog X.w X.K X.mg X.base CX k f fd ps sp) (hr : Room k X.A) (hb : KBn X.K fd ps n ks g gV) (hx : Passes CX X E)
    (I : Inv X pins σ H s) (r : Vals vs us) (rz : Vals zs ws) (l1 : vs.length = n) (l2 : zs.length = ks.length) (h : sp (gV vs zs) H Q E) : wpAny (model X.prog X.w) X.A (call (.ref f) us (ks.zip ws)) (EP X pins σ Q) X.xe s := by
  refine wpAny_call (codeAny_mono (F.run X.A X.stack s H ⟨us, ks.zip ws⟩ (g us ws) (gV vs zs) Q E hr I.env0 (hb.to s us ws I.kIn (r.length.symm.trans l1) (rz.length.symm.trans l2)) (hb.rel r rz) h) fun res s2 hq => ?_)
  cases res with
  | error e => exact hx pins σ H s e s2 I hq
  | ok fl =>
    cases fl with
    | ret u => exact I.after hq
    | next => exact False.elim hq
    | brk => exact False.elim hq
    | cont => exact False.elim hq
/-- f(k = v, ..) -/
def tCallKw (m : Nat) (sp : Sp) (gV : List V → List V → List V) (E : XK) (tk : TA) : TE := fun σ H Q => tk σ H fun zs H1 => zs.length = m ∧ sp (gV [] zs) H1 Q E
theorem pe_callKw (F : FnOk X.prog X.w X.K X.mg X.base CX k f fd ps sp) (hr : Room k X.A) (hg : Gl X x) (hm : X.mg x = some (.ref f)) (hk : PySem.W.keepIn X.K (.ref f) = true) (hb : KBn X.K fd ps 0 ks g gV) (hx : Passes CX X E) (hkw : PK X kws tk)
    (hall : (backToKw pos (keywordEach kws X.env)).all (·.1.isSome) = true := by rfl) (hks : (backToKw pos (keywordEach kws X.env)).filterMap (·.1) = ks := by rfl) (hdb : (x == ("__debug__" : Str)) = false := by decide)
    (hpl : ((backTo pos (starEach [] X.env)).any (·.1) || (backToKw pos (keywordEach kws X.env)).any (·.1.isNone)) = false := by rfl) :
    PE X (.Call (.Name x p) [] kws pos) (tCallKw ks.length sp gV E tk) := by
  refine ⟨fun pins s σ H Q I h => ?_⟩
  refine wpAny_Call_Name_kw (ld_glob I hg hm ?_ hdb)
  refine PySem.W.callWith_KW0 (h₀ := X.base) I.ok.mod.kin hk hall (thn (hkw.run pos pins s σ H _ I h) fun ws s2 ⟨zs, H2, I2, rz, l2, q2⟩ => ⟨I2.kIn, ?_⟩) hpl
  rw [hks]
  exact run_kw (us := []) (vs := []) F hr hb hx I2 .nil rz rfl l2 q2
/-- o.m(k = v, ..) -/
def tMethKw (C : Addr) (m : Str) (n : Nat) (sp : Sp) (gV : List V → List V → List V) (E : XK) (ta : TE) (tk : TA) : TE := fun σ H Q => ta σ H fun x H1 => ∃ a dx fs, x = .ref a ∧ H1 a = some (.ins C dx fs) ∧ fs.lookup m = none ∧
  tk σ H1 fun zs H2 => zs.length = n ∧ sp (gV [x] zs) H2 Q E
theorem pe_methKw {pl : Sem Bool} (he : PE X o ta) (c : Cls X.K C) (hm : Meth X.K C m f) (F : FnOk X.prog X.w X.K X.mg X.base CX k f fd ps sp) (hr : Room k X.A) (hb : KBn X.K fd ps 1 ks g gV) (hx : Passes CX X E) (hkw : PK X kws tk)
    (hall : (backToKw pos (keywordEach kws X.env)).all (·.1.isSome) = true := by rfl) (hks : (backToKw pos (keywordEach kws X.env)).filterMap (·.1) = ks := by rfl)
    (hpl : ((backTo pos (starEach [] X.env)).any (·.1) || (backToKw pos (keywordEach kws X.env)).any (·.1.isNone)) = false := by rfl)
    (ht : eval (.Call (.Attribute o m apos) [] kws pos) X.env = (do
      let ov ← eval o X.env
      standAt apos.atName
      let (f, first) ← holding [ov] (getMethod ov m pl)
      callWith pos f first (backTo pos (starEach [] X.env)) (backToKw pos (keywordEach kws X.env))) := by rfl) :
    PE X (.Call (.Attribute o m apos) [] kws pos) (tMethKw C m ks.length sp gV E ta tk) := by
  refine ⟨fun pins s σ H Q I h => ?_⟩
  refine PySem.W.methodCall_KW (pl := pl) (thn (he.run pins s σ H _ I h) fun u s1 ⟨x, H1, I1, rx, a, dx, fs, ex, ea, l, q⟩ => ?_) ht
  subst ex
  obtain rfl : u = Value.ref a := rx
  refine getmeth_ok I1 ea c hm l ?_
  refine PySem.W.callWith_KW0 (first := [.ref a]) (h₀ := X.base) I.ok.mod.kin hm.kp hall (thn (hkw.run pos pins s1 σ H1 _ I1 q) fun ws s2 ⟨zs, H2, I2, rz, l2, q2⟩ => ⟨I2.kIn, ?_⟩) hpl
  rw [hks]
  exact run_kw (us := [.ref a]) (vs := [.ref a]) F hr hb hx I2 (.cons rfl .nil) rz rfl l2 q2
end
/-! ### heaps that grow -/
abbrev Ex (H H2 : Hp) : Prop := Evl.Ex H H2
theorem exr {H : Hp} : Ex H H := fun _ _ h => h
theorem exn {H : Hp} {p : Addr} {o : HO} (h : H p = none) : Ex H (upd H p o) := Evl.Ex.new h
theorem SqK.mono {K : PySem.W.Frag} {H H2 : Hp} {p : Bool × Addr} {xs : List V} (e : Ex H H2) (h : CZ.SqK K H p xs) : CZ.SqK K H2 p xs := by
  obtain ⟨b, a⟩ := p
  cases b
  · exact Evl.ex_l e h
  · exact Evl.ex_t e h
/-- a comprehension whose element and tests leave all that stood: out i is what stands behind i turns -/
theorem lc_out {J : It} {n : Nat} {G : Hp → Prop} {Y : Nat → Hp → V → Hp → Prop} (w : Walk J n G Y) {g : TG} {tt : TT} {te : TE} {vs : List Nat} {σ : L2.St} {H1 : Hp} {D : Addr} {Qd : Hp → Prop} (out : Nat → List V) (h0 : out 0 = []) (hD : H1 D = none)
    (hlen : ∀ i, i < n → (out i).length < sizeLine) (hG : ∀ H, Ex H1 H → G H)
    (hs : ∀ i x H H2 (Nx : Hp → Prop), i < n → Ex H1 H → H D = some (.lst (out i)) → Y i H x H2 →
      (∀ y H5, Ex H H5 → out (i + 1) = out i ++ [y] → ∃ acc, H5 D = some (.lst acc) ∧ acc.length < sizeLine ∧ Nx (upd H5 D (.lst (acc ++ [y])))) → (∀ H4, Ex H H4 → out (i + 1) = out i → Nx H4) →
      g x (wipe σ vs) H2 fun σ2 H3 => wipe σ2 vs = wipe σ vs ∧ tt σ2 H3 fun b H4 => if b = true then te σ2 H4 fun y H5 => ∃ acc, H5 D = some (.lst acc) ∧ acc.length < sizeLine ∧ Nx (upd H5 D (.lst (acc ++ [y]))) else Nx H4)
    (hd : ∀ H, Ex H1 H → H D = some (.lst (out n)) → Qd H) :
    ∃ W : Nat → Nat → Hp → Prop, (∃ m, W 0 m (upd H1 D (.lst []))) ∧ ∀ i m H, W i m H →
      (J.stop i H ∧ Qd H) ∨ (J.go i H ∧ ∃ Nx : Hp → Prop, (∀ H2, Nx H2 → ∃ m2, m2 < m ∧ W (i + 1) m2 H2) ∧ ∀ x H2, J.yld i H x H2 → g x (wipe σ vs) H2 fun σ2 H3 => wipe σ2 vs = wipe σ vs ∧ tt σ2 H3 fun b H4 =>
        if b = true then te σ2 H4 fun y H5 => ∃ acc, H5 D = some (.lst acc) ∧ acc.length < sizeLine ∧ Nx (upd H5 D (.lst (acc ++ [y]))) else Nx H4) := by
  refine lc_it w (fun i H => Ex H1 H ∧ H D = some (.lst (out i))) ⟨exn hD, by rw [upd_same, h0]⟩ (fun i H _ p => hG H p.1) (fun i x H H2 hi p y => ?_) (fun H p => hd H p.1 p.2)
  refine hs i x H H2 _ hi p.1 p.2 y (fun y2 H5 e eo => ⟨out i, e D _ p.2, hlen i hi, fun b o q => ?_, by rw [upd_same, eo]⟩) (fun H4 e eo => ⟨fun b o q => e b o (p.1 b o q), by rw [eo]; exact e D _ p.2⟩)
  rw [upd_ne (ne_of_none q hD)]
  exact e b o (p.1 b o q)
/-- .. whose list is known: vals -/
theorem lc_vals {J : It} {n : Nat} {G : Hp → Prop} {Y : Nat → Hp → V → Hp → Prop} (w : Walk J n G Y) {g : TG} {te : TE} {vs : List Nat} {σ : L2.St} {H1 : Hp} {D : Addr} {Qd : Hp → Prop} (vals : List V) (hn : vals.length = n) (hl : n ≤ 10000000) (hD : H1 D = none)
    (hG : ∀ H, Ex H1 H → G H)
    (hs : ∀ i x H H2 (R : VK), i < n → Ex H1 H → Y i H x H2 → (∀ y H5, Ex H H5 → vals[i]? = some y → R y H5) → g x (wipe σ vs) H2 fun σ2 H3 => wipe σ2 vs = wipe σ vs ∧ te σ2 H3 R)
    (hg : ∀ x σ2 H2 (R R2 : L2.St → Hp → Prop), (∀ σ3 H3, R σ3 H3 → R2 σ3 H3) → g x σ2 H2 R → g x σ2 H2 R2)
    (hd : ∀ H, Ex H1 H → H D = some (.lst vals) → Qd H) :
    ∃ W : Nat → Nat → Hp → Prop, (∃ m, W 0 m (upd H1 D (.lst []))) ∧ ∀ i m H, W i m H →
      (J.stop i H ∧ Qd H) ∨ (J.go i H ∧ ∃ Nx : Hp → Prop, (∀ H2, Nx H2 → ∃ m2, m2 < m ∧ W (i + 1) m2 H2) ∧ ∀ x H2, J.yld i H x H2 → g x (wipe σ vs) H2 fun σ2 H3 => wipe σ2 vs = wipe σ vs ∧ tYes σ2 H3 fun b H4 =>
        if b = true then te σ2 H4 fun y H5 => ∃ acc, H5 D = some (.lst acc) ∧ acc.length < sizeLine ∧ Nx (upd H5 D (.lst (acc ++ [y]))) else Nx H4) := by
  refine lc_out w (fun i => vals.take i) rfl hD (fun i hi => ?_) hG (fun i x H H2 Nx hi e hDi y kA _ => ?_) (fun H e h => hd H e ?_)
  · rw [List.length_take]
    exact Nat.lt_of_le_of_lt (Nat.le_trans (Nat.min_le_right _ _) (by rw [hn]; exact hl)) (by decide)
  · refine hg _ _ _ _ _ (fun σ3 H3 q => ⟨q.1, ?_⟩) (hs i x H H2 (fun y H5 => ∃ acc, H5 D = some (.lst acc) ∧ acc.length < sizeLine ∧ Nx (upd H5 D (.lst (acc ++ [y])))) hi e y fun y2 H5 e5 ev => kA y2 H5 e5 ?_)
    · exact q.2
    · rw [List.take_add_one, ev]
      rfl
  · rw [h, List.take_of_length_le (by rw [hn]; exact Nat.le_refl _)]
theorem gmono_name {i : Nat} : ∀ x σ2 H2 (R R2 : L2.St → Hp → Prop), (∀ σ3 H3, R σ3 H3 → R2 σ3 H3) → gName i x σ2 H2 R → gName i x σ2 H2 R2 := fun _ _ _ _ _ h q => h _ _ q
theorem gmono_nil : ∀ vs σ2 H2 (R R2 : L2.St → Hp → Prop), (∀ σ3 H3, R σ3 H3 → R2 σ3 H3) → gNil vs σ2 H2 R → gNil vs σ2 H2 R2 := fun _ _ _ _ _ h q => ⟨q.1, h _ _ q.2⟩
theorem gmono_cons {t : TG} {u : TGs} (ht : ∀ x σ2 H2 (R R2 : L2.St → Hp → Prop), (∀ σ3 H3, R σ3 H3 → R2 σ3 H3) → t x σ2 H2 R → t x σ2 H2 R2) (hu : ∀ x σ2 H2 (R R2 : L2.St → Hp → Prop), (∀ σ3 H3, R σ3 H3 → R2 σ3 H3) → u x σ2 H2 R → u x σ2 H2 R2) :
    ∀ vs σ2 H2 (R R2 : L2.St → Hp → Prop), (∀ σ3 H3, R σ3 H3 → R2 σ3 H3) → gCons t u vs σ2 H2 R → gCons t u vs σ2 H2 R2 := fun vs σ2 H2 R R2 h q => by
  obtain ⟨v, r, e, q⟩ := q
  exact ⟨v, r, e, ht _ _ _ _ _ (fun σ3 H3 z => hu _ _ _ _ _ h z) q⟩
theorem gmono_tup {K : PySem.W.Frag} {n : Nat} {t : TGs} (ht : ∀ x σ2 H2 (R R2 : L2.St → Hp → Prop), (∀ σ3 H3, R σ3 H3 → R2 σ3 H3) → t x σ2 H2 R → t x σ2 H2 R2) :
    ∀ v σ2 H2 (R R2 : L2.St → Hp → Prop), (∀ σ3 H3, R σ3 H3 → R2 σ3 H3) → gTup K n t v σ2 H2 R → gTup K n t v σ2 H2 R2 := fun v σ2 H2 R R2 h q => by
  obtain ⟨a, xs, e, h1, h2, q⟩ := q
  exact ⟨a, xs, e, h1, h2, ht _ _ _ _ _ h q⟩
/-! ### a list or a tuple walked -/
def ItS (K : PySem.W.Frag) (p : Bool × Addr) : It := if p.1 = true then Itt K p.2 else Itl K p.2
def iSeq (K : PySem.W.Frag) (tl : TE) : TI := fun σ H R => tl σ H fun x H1 => ∃ p : Bool × Addr, x = .ref p.2 ∧ (∃ xs, CZ.SqK K H1 p xs) ∧ R (ItS K p) H1
theorem pi_seq {X : Cx} {tg l : Expr} {tl : TE} (hl : PE X l tl) : PI X tg l (iSeq X.K tl) := by
  refine ⟨fun pins s σ H R I h => ?_⟩
  refine thn (hl.run pins s σ H _ I h) fun v s1 ⟨x, H1, I1, r1, q1⟩ => ?_
  obtain ⟨⟨b, a⟩, ex, ⟨xs, hq⟩, q⟩ := q1
  subst ex
  cases r1
  obtain ⟨its, rv, g, lt⟩ := CZ.sq_seq I1 hq
  have fp : ∀ c ∈ [s1.heap.objs.size], FpOk X pins H1 c := fun c hc => by
    have e : c = s1.heap.objs.size := by simpa using hc
    rw [e]
    exact I1.fpOk (Nat.le_refl _) (I1.hok.fresh (Nat.le_refl _))
  refine (CZ.begins_of (b, a) its).iter _ _ _ _ s1 _ g ?_
  have I2 : Inv X pins σ H1 { s1 with heap := s1.heap.push (CZ.itO (b, a)) } := I1.kept (t' := s1.toks) fun c o e => Heap.get?_push_of_some _ e
  cases b
  · exact ⟨_, [s1.heap.objs.size], _, _, H1, rfl, I2, turn_list a _, ⟨_, Heap.get?_push_size _ rfl, rfl, rfl⟩, fp, q⟩
  · exact ⟨_, [s1.heap.objs.size], _, _, H1, rfl, I2, turn_tuple a _, ⟨_, Heap.get?_push_size _ rfl, rfl, rfl⟩, fp, q⟩
theorem walk_seq {K : PySem.W.Frag} {p : Bool × Addr} {xs : List V} : Walk (ItS K p) xs.length (fun H => CZ.SqK K H p xs) (YAt xs) := by
  obtain ⟨b, a⟩ := p
  cases b
  · exact walk_list
  · exact walk_tup
theorem itt {c : Bool} {A B : Prop} (h : c = true) (a : A) : if c = true then A else B := by rw [if_pos h]; exact a
theorem itf {c : Bool} {A B : Prop} (h : c = false) (b : B) : if c = true then A else B := by rw [h, if_neg Bool.false_ne_true]; exact b
theorem map_get {α : Type} {f : α → V} {l : List α} {i : Nat} {x : V} (h : (l.map f)[i]? = some x) : ∃ n, l[i]? = some n ∧ x = f n := by
  rw [List.getElem?_map] at h
  cases e : l[i]? with
  | none => rw [e] at h; cases h
  | some n => rw [e] at h; exact ⟨n, rfl, (Option.some.inj h).symm⟩
end CS

namespace CE
open PySem PySem.Spec PyProof.Rows L2 CZ
/-! ### enumerate over a list or a tuple -/
theorem enumO_new {v : Value} {oo : Obj} {Hq : Heap → Prop} (bg : Begins v oo Hq) :
    Meets (Builtin.«enumerate.__new__» ⟨[.type "enumerate", v], []⟩) (fun _ R t => Hq t.heap ∧
      R (.ok (.ret (.ref (t.heap.push oo).objs.size))) { t with heap := (t.heap.push oo).push { cls := .type "enumerate", data := .fields #[.none, .bool false, .ref t.heap.objs.size, rawInt 0, .none, .none] } }) :=
  .of_wp fun pg wo Ar R t hyp => by
    obtain ⟨hh, gg, dd, tt, oq⟩ := t
    obtain ⟨start, goal⟩ := hyp
    have es := PySem.sub_enumerate
    have go1 : ∀ {A2 : Around} {E2 : Value → Shared → Prop} {Q2 : Value → Shared → Prop}, Q2 (.ref hh.objs.size) ⟨hh.push oo, gg, dd, tt, oq⟩ → wpAny (model pg wo) A2 (pyIter v) Q2 E2 ⟨hh, gg, dd, tt, oq⟩ :=
      fun z => bg.iter pg wo _ _ ⟨hh, gg, dd, tt, oq⟩ _ start z
    wp_walk using go1
    refine wpAny_stack_any fun stk => wpAny_pure ?_
    split
    · rename_i cc _ _ _ _ _
      cases (cc == Value.type "enumerate")
      all_goals
        wp_walk using go1
        exact ⟨_, rfl, goal⟩
    · wp_walk using go1
      exact ⟨_, rfl, goal⟩
theorem enum_of {pg : Program} {wo : World} {Ar : Around} {Ex1 : Value → Shared → Prop} {t : Shared} {v : Value} {oo : Obj} {Hq : Heap → Prop} {Qe : Value → Shared → Prop} (bg : Begins v oo Hq) (start : Hq t.heap)
    (goal : ∀ hN, IsEnum hN (t.heap.objs.size + 1) t.heap.objs.size 0 .none → hN.get? t.heap.objs.size = some oo → (∀ c ob, t.heap.get? c = some ob → hN.get? c = some ob) → Qe (.ref (t.heap.objs.size + 1)) { t with heap := hN }) :
    wpAny (model pg wo) Ar (call (.type "enumerate") [v]) Qe Ex1 t := by
  refine callType_new F.called_enumerate (by decide) (F.typeCall_enumerate_1 _) (F.newCall_enumerate_1 _) (fun ob => F.args_object_init_2 ob _) F.entry_enumerate_new (enumO_new bg) ⟨start, ?_⟩
  have size1 : (t.heap.push oo).objs.size = t.heap.objs.size + 1 := Heap.size_push ..
  have isE : IsEnum ((t.heap.push oo).push { cls := .type "enumerate", data := .fields #[.none, .bool false, .ref t.heap.objs.size, rawInt 0, .none, .none] }) (t.heap.objs.size + 1) t.heap.objs.size 0 .none := by
    have at1 := Heap.get?_push_size (t.heap.push oo) (o := { cls := .type "enumerate", data := .fields #[.none, .bool false, .ref t.heap.objs.size, rawInt 0, .none, .none] }) rfl
    rw [size1] at at1
    exact at1
  show _ ∧ _
  rw [size1]
  exact ⟨⟨_, isE, rfl⟩, goal _ isE (Heap.get?_push_of_some _ (Heap.get?_push_size _ bg.free)) fun c ob z => Heap.get?_push_of_some _ (Heap.get?_push_of_some _ z)⟩
/-- what stands at p, each item in a new pair -/
def ItE (K : PySem.W.Frag) (p : Bool × Addr) : It :=
  ⟨fun i H => ∃ (xs : List V) (x : V), SqK K H p xs ∧ xs[i]? = some x, fun i H v H2 => ∃ T x, v = .ref T ∧ H T = none ∧ H2 = upd H T (.tup [.int (i : Nat), x]) ∧ ∀ xs, SqK K H p xs → xs[i]? = some x, fun i H => ∃ xs : List V, SqK K H p xs ∧ xs.length = i⟩
theorem turn_e {P : Program} {w : World} {K : PySem.W.Frag} {elts : List Expr} {kk : Nat} {tpos : Pos} {en it : Addr} {p : Bool × Addr} (n1 : p.2 ≠ it) (n2 : en ≠ it) (n3 : en ≠ p.2) :
    Turn P w K (.Tuple elts kk tpos) (ItE K p) [en, it] en (fun i h => (∃ old, IsEnum h en it ((i : Nat) : Int) old) ∧ SqIt h it p i) where
  mem := by simp
  obj := fun i h st c hc => by
    obtain ⟨⟨old, ie⟩, si⟩ := st
    have e : c = en ∨ c = it := by simpa using hc
    rcases e with q | q
    · rw [q]; exact ⟨_, ie, fun v q => nomatch q⟩
    · rw [q]; exact si.obj
  keep := fun i h h2 st k => by
    obtain ⟨⟨old, ie⟩, si⟩ := st
    exact ⟨⟨old, k en (by simp) _ ie⟩, si.at fun o q => k it (by simp) o q⟩
  item := by
    intro X hP hw hK hc i pins s σ H E I hf st hg
    subst hP hw hK
    obtain ⟨⟨old, ie⟩, si⟩ := st
    obtain ⟨xs, x, hq, hx⟩ := hg
    obtain ⟨its, rv, sq, _⟩ := sq_seq I hq
    obtain ⟨u, hu, ru⟩ := rv.get hx
    have gu : its.toArray[i]? = some u := by simpa using hu
    have lu : i < its.toArray.size := by
      have := (List.getElem?_eq_some_iff.mp hu).1
      simpa using this
    have enl : en < s.heap.objs.size := Heap.lt_size ie
    have itl : it < s.heap.objs.size := by
      obtain ⟨_, q, _⟩ := si.obj
      exact Heap.lt_size q
    refine PySem.wpAny_pyNext_enum_itemD (draws_of (A := X.A.in1) (I.ok.hd hc) it p n1 its) ie ⟨si, sq⟩ lu n2 (by simp [n2, n3]) fun x1 hA tk hx1 out ⟨si2, _⟩ hT hsz hk => ?_
    obtain rfl : u = x1 := Option.some.inj (gu.symm.trans hx1)
    refine ⟨_, rfl, wpAny_letOwnedTupleGo_enum (s := { s with heap := hA, toks := tk + 1 }) out fun hB isB sb => ?_⟩
    replace sb : Heap.SameBut en hA hB := sb
    have hT2 : hB.get? s.heap.objs.size = some { cls := .type "tuple", data := .seq #[.int i tk, u] } := (sb.2 _ (Nat.ne_of_gt enl)).trans hT
    have made : ObjOk X.prog X.w (upd H s.heap.objs.size (.tup [.int (i : Nat), x])) hB s.heap.objs.size (.tup [.int (i : Nat), x]) := ⟨by show 2 ≤ sizeLine; decide, [.int i tk, u], .cons ⟨_, rfl⟩ (.cons ru .nil), ⟨_, hT2, rfl, _, rfl⟩⟩
    have I1 : Inv X pins σ (upd H s.heap.objs.size (.tup [.int (i : Nat), x])) { s with heap := hB, toks := tk + 1 } :=
      I.turnedNew (t' := tk + 1) (ch := [en, it]) (fun c ob hb q => (sb.2 c (fun z => hb (by simp [z]))).trans (hk c ob (fun z => hb (by simp [z])) (fun z => hb (by simp [z])) q)) hf (Nat.le_refl _) made
    refine ⟨.ref s.heap.objs.size, _, I1, rfl, ⟨_, x, rfl, I.hok.fresh (Nat.le_refl _), rfl, fun ys hy => by rw [sq_inj I hy hq]; exact hx⟩, ⟨⟨u, ?_⟩, si2.at fun o q => (sb.2 it n2.symm).trans q⟩, fun c hcm => ?_⟩
    · have next : ((i + 1 : Nat) : Int) = (i : Int) + 1 := by omega
      rw [next]
      exact isB
    · have small : c < s.heap.objs.size := by
        have e : c = en ∨ c = it := by simpa using hcm
        rcases e with q | q
        · rw [q]; exact enl
        · rw [q]; exact itl
      rw [upd_ne (Nat.ne_of_lt small)]
      exact (hf c hcm).1
  done := by
    intro X hP hw hK hc i pins s σ H E I hf st hg
    subst hP hw hK
    obtain ⟨⟨old, ie⟩, si⟩ := st
    obtain ⟨xs, hq, hx⟩ := hg
    obtain ⟨its, rv, sq, _⟩ := sq_seq I hq
    have li : its.toArray.size = i := by
      have := rv.length
      simp
      omega
    have dr := draws_of (prog := X.prog) (w := X.w) (A := X.A.in1) (I.ok.hd hc) it p n1 its
    rw [li] at dr
    exact PySem.wpAny_pyNext_enum_endD dr ie ⟨si, sq⟩ fun hA eb => ⟨rfl, I.turnedL (t' := s.toks) (ch := [en, it]) (fun c ob hb q => eb c ob (fun z => hb (by simp [z])) q) hf⟩
  self := fun A i s Q E st h => let ⟨⟨_, ie⟩, _⟩ := st; wpAny_pyIter_enum ie h
theorem walk_e {K : PySem.W.Frag} {p : Bool × Addr} {xs : List V} : Walk (ItE K p) xs.length (fun H => SqK K H p xs) (YPair (fun i => some (.int (i : Nat))) (fun i => xs[i]?)) :=
  ⟨fun i _ hi q => ⟨xs, xs[i], q, by simp [hi]⟩, fun _ q => ⟨xs, q, rfl⟩, fun i H v H2 _ q y => by
    obtain ⟨T, x, h1, h2, h3, h4⟩ := y
    exact ⟨T, _, x, h1, h2, h3, rfl, h4 xs q⟩⟩
/-- enumerate(e), e a list or a tuple -/
def iE (K : PySem.W.Frag) (ta : TA) : TI := fun σ H R => ta σ H fun vs H1 => ∃ p : Bool × Addr, vs = [.ref p.2] ∧ (∃ xs, SqK K H1 p xs) ∧ R (ItE K p) H1
theorem pi_e {X : Cx} {e : Expr} {ta : TA} {po pos tpos : Pos} {elts : List Expr} {kk : Nat} (hg : Gl X "enumerate") (hm : X.mg "enumerate" = none) (ha : PA X [e] ta) (hs : starEach [e] X.env = [(false, eval e X.env)] := by rfl) :
    PI X (.Tuple elts kk tpos) (.Call (.Name "enumerate" po) [e] [] pos) (iE X.K ta) := by
  refine ⟨fun pins s σ H R I h => ?_⟩
  refine Call_ (ld_blt I hg hm boot_enumerate (PyProof.Rows.callWith_type1 (thn (ha.run pos pins s σ H _ I h) fun us s0 ⟨vs, H1, I1, r1, q1⟩ => ?_) hs rfl))
  obtain ⟨p, ev, ⟨xs, hq⟩, q1⟩ := q1
  subst ev
  cases r1 with
  | cons r rr =>
    cases rr
    cases r
    obtain ⟨its, rv, sq, lt⟩ := sq_seq I1 hq
    refine enum_of (begins_of p its) sq fun hN ie io kk2 => wpAny_pyIter_enum ie ?_
    have I2 : Inv X pins σ H1 { s0 with heap := hN } := I1.kept (t' := s0.toks) kk2
    refine ⟨s0.heap.objs.size + 1, [s0.heap.objs.size + 1, s0.heap.objs.size], _, _, H1, rfl, I2, turn_e (Nat.ne_of_lt lt) (Nat.succ_ne_self _) (Nat.ne_of_gt (Nat.lt_succ_of_lt lt)), ⟨⟨.none, ie⟩, SqIt.begin io⟩, fun c hc => ?_, q1⟩
    have le : s0.heap.objs.size ≤ c := by
      have e : c = s0.heap.objs.size + 1 ∨ c = s0.heap.objs.size := by simpa using hc
      rcases e with z | z
      · rw [z]; exact Nat.le_add_right _ _
      · rw [z]; exact Nat.le_refl _
    exact I1.fpOk le (I1.hok.fresh le)
end CE

namespace CL
open PySem PySem.Spec PyProof.Rows L2
/-! ### set(l) of a list of ints -/
section
variable {pg : Program} {wo : World} {Ar : Around} {Ee : Value → Shared → Prop} {t : Shared}
set_option maxRecDepth 100000 in
set_option maxHeartbeats 3200000 in
theorem set_of_list {l : Addr} {its : Array Value} (ns : List Int) {Qe : Value → Shared → Prop} (calm : Ar.handled = none) (isl : t.heap.IsList l its) (intsA : IntsAre its.toList ns) (few : ns.length + 1 < scanBound)
    (goal : ∀ (hN : Heap) (k c : Nat), SetR wo hN t.heap.objs.size (fun j => decide (j ∈ ns)) c → c ≤ ns.length → (∀ b ob, t.heap.get? b = some ob → hN.get? b = some ob) → Qe (.ref t.heap.objs.size) { t with heap := hN, toks := k }) :
    wpAny (model pg wo) Ar (call (.type "set") [.ref l]) Qe Ee t := by
  have len : its.size = ns.length := by
    have z := IntsAre.length intsA
    rw [Array.length_toList] at z
    exact z
  obtain ⟨cc, tail, mro⟩ := PySem.F.called_set.mro
  have made := PySem.F.called_set.made
  have sub := PySem.F.called_set.sub
  refine wpAny_call (codeAny_of_tree ?_)
  show wpAny _ _ (callAny (.type "set") _) _ _ _
  refine wpAny_pure ⟨Code.quiet_builtin _ (by decide +kernel), codeAny_builtin PySem.F.entry_type_call ?_⟩
  rw [Around.under_plain (weight_type_call_type "set" [.ref l] []) rfl]
  have noType := PySem.F.called_set.notType
  have creates := PySem.F.called_set.canCreate
  have checked := PySem.F.typeCall_set_1 (.ref l)
  repeat (any_goals (first | assumption | wp_step))
  refine codeAny_mono (code_set_led1 (.ref l) (E := Ee) (Q₁ := fun ob t1 => ob = .ref t.heap.objs.size ∧ t1 = { t with heap := t.heap.push { cls := .type "set", dict := none, data := .set #[] 0 (.fresh 0 0 (!wo.params.followText "set-order")) } }) ⟨rfl, rfl⟩) fun r t1 hr => ?_
  cases r with
  | error e => exact hr
  | ok fl =>
    cases fl with
    | ret ob =>
      obtain ⟨rfl, rfl⟩ := hr
      have hS : (t.heap.push { cls := .type "set", dict := none, data := .set #[] 0 (.fresh 0 0 (!wo.params.followText "set-order")) }).get? t.heap.objs.size = some { cls := .type "set", dict := none, data := .set #[] 0 (.fresh 0 0 (!wo.params.followText "set-order")) } := Heap.get?_push_size _ rfl
      have tS : Shared.TypeIs { t with heap := t.heap.push { cls := .type "set", dict := none, data := .set #[] 0 (.fresh 0 0 (!wo.params.followText "set-order")) } } (.ref t.heap.objs.size) "set" := ⟨_, hS, rfl⟩
      have ini := PySem.F.called_set.init.lookup
      have bnd := PySem.F.called_set.init.bind (.ref t.heap.objs.size)
      repeat (any_goals (first | assumption | wp_step))
      refine codeAny_mono (codeAny_call_builtin (R := wants (fun r t2 => r = .none ∧ ∃ hN k c, t2 = { t with heap := hN, toks := k } ∧ SetR wo hN t.heap.objs.size (fun j => decide (j ∈ ns)) c ∧ c ≤ ns.length ∧
          (∀ b ob, t.heap.get? b = some ob → hN.get? b = some ob)) Ee) PySem.F.called_set.init.plain PySem.F.entry_set_init (check_set_init_1 tS ?_)) fun r2 t2 hr2 => ?_
      · obtain ⟨ol, hol, hcl, nl, hdl⟩ := id isl
        obtain ⟨ocls, odict, odata, oslots⟩ := ol
        simp only at hcl hdl
        subst hcl
        subst hdl
        have hol2 : (t.heap.push { cls := .type "set", dict := none, data := .set #[] 0 (.fresh 0 0 (!wo.params.followText "set-order")) }).get? l = some { cls := .type "list", dict := odict, data := .seq its nl, slots := oslots } := Heap.get?_push_of_some _ hol
        have s1 := PySem.F.sub_list_set
        have s2 := PySem.F.sub_list_frozenset
        have nd : (Value.type "list" == Value.type "dict") = false := by decide
        have isl2 : (t.heap.push { cls := .type "set", dict := none, data := .set #[] 0 (.fresh 0 0 (!wo.params.followText "set-order")) }).IsList l its := ⟨_, hol2, rfl, nl, rfl⟩
        unfold Builtin.«set.__init__» noKeywords Builtin.Frozenset.updateFrom
        generalize hPI : pyIter = PIt
        wp_walk
        subst hPI
        refine wpAny_pyIter_list isl2 ?_
        refine wpAny_bind (wpAny_runValue ?_)
        have lS : l < t.heap.objs.size := Heap.lt_size hol
        have calm3 : Ar.in1.in1.in1.handled = none := by simp [calm]
        have neI : l ≠ (t.heap.push { cls := .type "set", dict := none, data := .set #[] 0 (.fresh 0 0 (!wo.params.followText "set-order")) }).objs.size := by
          rw [Heap.size_push]
          exact Nat.ne_of_lt (Nat.lt_succ_of_lt lS)
        have notF : t.heap.objs.size ∉ [(t.heap.push { cls := .type "set", dict := none, data := .set #[] 0 (.fresh 0 0 (!wo.params.followText "set-order")) }).objs.size, l] := by
          rw [Heap.size_push]
          simp only [List.mem_cons, List.not_mem_nil, or_false, not_or]
          exact ⟨Nat.ne_of_lt (Nat.lt_succ_self _), Nat.ne_of_gt lS⟩
        have vals : ∀ (i : Nat) (v : Value), its[i]? = some v → ∃ k u, ns[i]? = some k ∧ v = .int k u := fun i v hv => by
          have hi : i < ns.length := by
            rw [← len]
            exact (Array.getElem?_eq_some_iff.mp hv).1
          obtain ⟨u, e⟩ := PyProof.Rows.IntsAre.int_at intsA i v (by rw [Array.getElem?_toList]; exact hv)
          refine ⟨ns[i], u, List.getElem?_eq_getElem hi, ?_⟩
          rw [e, List.getD_eq_getElem?_getD, List.getElem?_eq_getElem hi] <;> rfl
        refine set_update_ints ((Walks.list calm3 _ l neI its).toS) t.heap.objs.size notF ns len few vals (its.size - 0) 0 _ (by omega) (Nat.zero_le _) ⟨⟨_, Heap.get?_push_size _ rfl, rfl, rfl⟩, (isl2.push _)⟩ ?first ?last
        case first =>
          exact ⟨0, Nat.le_refl 0, setR_new_at (Heap.get?_push_of_some _ hS)⟩
        case last =>
          intro t3 c3 mv hc3 hS3
          obtain ⟨hN, g3, d3, k3, os3⟩ := t3
          obtain rfl : g3 = t.gens := mv.gens
          obtain rfl : d3 = t.drawn := mv.drawn
          obtain rfl : os3 = t.os := mv.os
          show wpAny _ _ _ _ _ _
          refine wpAny_pure ?_
          show wpAny _ _ (ret Value.none) _ _ _
          rw [len] at hc3
          refine wpAny_pure ⟨rfl, hN, k3, c3, rfl, hS3, hc3, fun b ob e => ?_⟩
          have b0 : b < t.heap.objs.size := Heap.lt_size e
          have b2 : b ≠ (t.heap.push { cls := .type "set", dict := none, data := .set #[] 0 (.fresh 0 0 (!wo.params.followText "set-order")) }).objs.size := by
            rw [Heap.size_push]
            exact Nat.ne_of_lt (Nat.lt_succ_of_lt b0)
          exact mv.heap b ob (by simp only [List.mem_cons, List.not_mem_nil, or_false, not_or]; exact ⟨Nat.ne_of_lt b0, b2⟩) (Heap.get?_push_of_some _ (Heap.get?_push_of_some _ e))
      · cases r2 with
        | error e => exact hr2
        | ok fl2 =>
          cases fl2 with
          | ret r =>
            obtain ⟨rfl, hN, k, c2, rfl, hS2, hc2, hk2⟩ := hr2
            repeat (any_goals (first | assumption | wp_step))
            exact goal _ _ _ hS2 hc2 hk2
          | _ => exact hr2.elim
    | _ => exact hr.elim
end
/-- set(l), l a list of ints -/
def rSetI (K : PySem.W.Frag) (w : World) : List V → Hp → VK → Prop := fun vs H Q => ∃ (a : Addr) (ns : List Int), vs = [V.ref a] ∧ SqL K H a (ns.map V.int) ∧ ns.length + 1 < scanBound ∧ ∀ p c, H p = none → c ≤ ns.length → Q (.ref p) (upd H p (SetO w p (fun j => decide (j ∈ ns)) c))
theorem call_setI {X : Cx} (hc : X.calm = true) : CallR X (.type "set") (rSetI X.K X.w) := by
  intro pins s σ H vs us Q I r h
  obtain ⟨a, ns, rfl, hl, few, q⟩ := h
  rw [Vals.ref1 r]
  obtain ⟨its, rv, pl, _⟩ := I.list hl
  refine set_of_list ns (I.ok.hd hc) pl.isList (by rw [List.toList_toArray]; exact intsAre_of rv) few fun hN k c new hcl keep => ?_
  exact ⟨.ref _, upd H s.heap.objs.size (SetO X.w s.heap.objs.size (fun j => decide (j ∈ ns)) c), I.laid (t' := k) keep (Nat.le_refl _) (setO_new new), rfl, q _ c (I.hok.fresh (Nat.le_refl _)) hcl⟩
end CL

namespace CS
open PySem PySem.Spec PyProof.Rows L2
/-! ### more rules beside the layer's -/
section
variable {X : Cx}
/-- o.f as a target -/
def gFld (K : PySem.W.Frag) (to : TE) (f : Str) : TG := fun v σ H Q => to σ H fun x H1 => ∃ a C dx fs, x = .ref a ∧ H1 a = some (.ins C dx fs) ∧ Cls K C ∧ NoAttr K C f ∧ fs.length < 1000 ∧ Q σ (upd H1 a (.ins C dx (putF f v fs)))
theorem pg_fld {o : Expr} {f : Str} {pos : Pos} {to : TE} (ho : PE X o to) : PG X (.Attribute o f pos) (gFld X.K to f) := by
  refine ⟨fun pins s σ H v u Q I r h => ?_⟩
  rw [assign_Attribute]
  refine wpAny_bind (wpAny_holding (thn (ho.run pins s σ H _ I h) fun ov s1 ⟨x, H1, I1, r1, a, C, dx, fs, ex, ea, c, n, l, q⟩ => ?_))
  subst ex
  obtain rfl : ov = Value.ref a := r1
  refine wpAny_bind (wpAny_standAt (wpAny_bind (wpAny_holding (setattr_ok I1 ea c n l r fun s3 I3 => ?_))))
  exact wpAny_release ⟨σ, _, I3, q⟩
theorem pe_fldK {e : Expr} {f : Str} {pos : Pos} {ta : TE} (K : PySem.W.Frag) (hk : X.K = K) (he : PE X e ta) (hb : attributeBase e f X.env (eval e X.env) = eval e X.env) : PE X (.Attribute e f pos) (tFld K ta f) := by
  subst hk
  exact pe_fld he hb
def rLenQ (K : PySem.W.Frag) : List V → Hp → VK → Prop := fun xs H Q => ∃ p ys, xs = [.ref p] ∧ (SqL K H p ys ∨ SqT K H p ys) ∧ Q (.int ys.length) H
def rListQ (K : PySem.W.Frag) : List V → Hp → VK → Prop := fun xs H Q => ∃ p ys, xs = [.ref p] ∧ (SqL K H p ys ∨ SqT K H p ys) ∧ ∀ l, H l = none → Q (.ref l) (upd H l (.lst ys))
def rTupleQ (K : PySem.W.Frag) : List V → Hp → VK → Prop := fun xs H Q => ∃ p ys, xs = [.ref p] ∧ ((SqL K H p ys ∧ ∀ l, H l = none → Q (.ref l) (upd H l (.tup ys))) ∨ (SqT K H p ys ∧ Q (.ref p) H))
/-- // by a divisor of either sign -/
def CDivNW (_ j : Int) : Prop := j ≠ 0 ∧ j.natAbs.log2 < 9000
theorem op_fdivNW : OpR X (binaryOp .FloorDiv) (rI CDivNW fun i j => .int (i.fdiv j)) := opI fun _ _ _ _ _ _ _ hc q => floordiv_int hc.1 q (.inl (PyProof.noPylong_of_log2 hc.2))
theorem wide_divN {i j : Int} {b : Nat} (h : j ≠ 0) (hb : j.natAbs < 2 ^ b) (h0 : 0 < b) (h9 : b ≤ 9000) : CDivNW i j := ⟨h, Nat.lt_of_lt_of_le (PySem.Flt.log2_lt_of h0 hb) h9⟩
theorem kit_self {K : PySem.W.Frag} {C : Addr} : PySem.W.kitOne K (.ref C) (.ref C) = some true := by
  unfold PySem.W.kitOne
  rw [if_pos (by simp)]
theorem pe_revLK {e : Expr} {te : TE} {k : Nat} {p1 p2 p3 pos : Pos} (K : PySem.W.Frag) (hk : X.K = K) (he : PE X e te) : PE X (.Subscript e (.Slice none none (some (.UnaryOp .USub (.Constant (.int 1) k p1) p2)) p3) pos) (tRevL K te) := by
  subst hk
  exact pe_revL he
/-- x in s, a list or a tuple of data -/
def rInQ (K : PySem.W.Frag) : R2 := fun x y H Q => ∃ d ds, Dp K H x d ∧ (Dp K H y (.list ds) ∨ Dp K H y (.tuple ds)) ∧ SeqAt.shaped d = true ∧ SeqAt.shaped (.list ds) = true ∧ Q (.bl (ds.any fun z => PyData.eqv z d)) H
def rNotInQ (K : PySem.W.Frag) : R2 := fun x y H Q => ∃ d ds, Dp K H x d ∧ (Dp K H y (.list ds) ∨ Dp K H y (.tuple ds)) ∧ SeqAt.shaped d = true ∧ SeqAt.shaped (.list ds) = true ∧ Q (.bl (!ds.any fun z => PyData.eqv z d)) H
theorem op_inQ (hu : X.A.units + 65 < cLine) : OpR X (compareOp .In) (rInQ X.K) := by
  intro pins s σ H x y v u Q I rx ry h
  obtain ⟨d, ds, hd, he, sd, se, q⟩ := h
  obtain ⟨as, r1⟩ := Dp.reads I d x v hd rx
  rcases he with he | he
  · obtain ⟨bs, r2⟩ := Dp.reads I (.list ds) y u he ry
    exact SeqAt.in_list_reads r2 r1 (SeqAt.canLay_of_shaped se) (SeqAt.canLay_of_shaped sd) (room_in_shaped sd hu) ⟨.bl _, H, I, rfl, q⟩
  · obtain ⟨bs, r2⟩ := Dp.reads I (.tuple ds) y u he ry
    exact SeqAt.in_tuple_reads r2 r1 (SeqAt.canLay_of_shaped se) (SeqAt.canLay_of_shaped sd) (room_in_shaped sd hu) ⟨.bl _, H, I, rfl, q⟩
theorem op_notInQ (hu : X.A.units + 65 < cLine) : OpR X (compareOp .NotIn) (rNotInQ X.K) := by
  intro pins s σ H x y v u Q I rx ry h
  obtain ⟨d, ds, hd, he, sd, se, q⟩ := h
  obtain ⟨as, r1⟩ := Dp.reads I d x v hd rx
  rcases he with he | he
  · obtain ⟨bs, r2⟩ := Dp.reads I (.list ds) y u he ry
    exact SeqAt.notIn_list_reads r2 r1 (SeqAt.canLay_of_shaped se) (SeqAt.canLay_of_shaped sd) (room_in_shaped sd hu) ⟨.bl _, H, I, rfl, q⟩
  · obtain ⟨bs, r2⟩ := Dp.reads I (.tuple ds) y u he ry
    exact SeqAt.notIn_tuple_reads r2 r1 (SeqAt.canLay_of_shaped se) (SeqAt.canLay_of_shaped sd) (room_in_shaped sd hu) ⟨.bl _, H, I, rfl, q⟩
end
end CS

namespace CZ
open PySem PySem.Spec PyProof.Rows L2
open PySem.Sem (wp)
section
variable {prog : Program} {w : World} {A : Around} {E : Value → Shared → Prop} {s : Shared}
theorem next_end2u {z TI TO i1 i2 : Addr} {fp1 fp2 : List Addr} {n : Nat} {P1 : Nat → Value → Prop} {St1 : Nat → Heap → Prop} {a1 a2 : Value} {Q : Fin → Shared → Prop} (S : Sep2 z TI TO i1 i2 fp1 fp2) (D1 : Draws prog w A i1 fp1 n P1 St1)
    (hz : ZipO s.heap z TI TO .none false) (hTI : TupO s.heap TI #[.ref i1, .ref i2]) (hTO : TupO s.heap TO #[a1, a2]) (st1 : St1 n s.heap)
    (hE : ∀ h' e, (∀ c o, c ≠ z → c ≠ TO → c ≠ i1 → c ≠ i2 → s.heap.get? c = some o → h'.get? c = some o) → (∃ o, h'.get? e = some o ∧ o.cls = .type "StopIteration") → E (.ref e) { s with heap := h' }) :
    wpAny (model prog w) A (Builtin.«zip.__next__» ⟨[.ref z], []⟩) Q E s := by
  obtain ⟨hp, g, d, tk0, os⟩ := s
  refine wpAny_bind (m := field (.ref z) 2) (wpAny_field hz rfl (x := .bool false) rfl ?_)
  refine wpAny_bind (m := field (.ref z) 3) (wpAny_field hz rfl (x := .ref TI) rfl ?_)
  refine wpAny_bind (wpAny_seqItems hTI rfl ?_)
  show wpAny _ _ (Builtin.SmallTypes.ownedTupleIsFree (.ref z) >>= _) _ _ _
  rw [val_b]
  refine wpAny_bind ?_
  unfold Builtin.SmallTypes.ownedTupleIsFree
  refine wpAny_bind (wpAny_field hz rfl (x := .none) rfl (wpAny_pure ?_))
  simp only [if_true]
  refine wpAny_bind (wpAny_rule (wpAny_bind (wpAny_field hz rfl (x := .ref TO) rfl ?_)))
  refine wpAny_bind (wpAny_setField_rec hz (by simp) fun g0 hz0 hs0 => wpAny_bind ?_)
  replace hs0 : Heap.SameBut z hp g0 := hs0
  replace hz0 : ZipO g0 z TI TO .ellipsis false := hz0
  have t1_0 : St1 n g0 := D1.frame _ _ _ st1 fun c hc o e => hs0.extBut c o (fun q => S.z1 (q ▸ hc)) e
  simp only [List.zipIdx_cons, List.zipIdx_nil, List.forIn_cons, List.forIn_nil]
  refine wpAny_bind (wpAny_bind (wpAny_onRaise ?_))
  refine wpAny_bind (m := Builtin.SmallTypes.nextOf (.ref i1)) (D1.done ⟨g0, g, d, tk0, os⟩ _ _ t1_0 fun y e hy he => ?_)
  replace hy : Heap.ExtBut i1 g0 y := hy
  obtain ⟨oe, hoe, hce⟩ := he
  replace hoe : y.get? e = some oe := hoe
  have hzy : ZipO y z TI TO .ellipsis false := hy _ _ (fun q => S.z1 (q ▸ S.m1)) hz0
  have hez : e ≠ z := fun x => by subst x; rw [hzy] at hoe; cases hoe; simp at hce
  refine wpAny_setField_rec (s := ⟨y, g, d, tk0, os⟩) hzy (by simp) fun y2 _ hv => ?_
  replace hv : Heap.SameBut z y y2 := hv
  exact hE y2 e (fun c o qz qT q1 q2 x => hv.extBut c o qz (hy c o q1 (hs0.extBut c o qz x))) ⟨oe, hv.extBut _ _ hez hoe, hce⟩
theorem py_end2u {z TI TO i1 i2 : Addr} {fp1 fp2 : List Addr} {n : Nat} {P1 : Nat → Value → Prop} {St1 : Nat → Heap → Prop} {a1 a2 : Value} {Q : Option Value → Shared → Prop} (S : Sep2 z TI TO i1 i2 fp1 fp2) (D1 : Draws prog w A.in1 i1 fp1 n P1 St1)
    (hz : ZipO s.heap z TI TO .none false) (hTI : TupO s.heap TI #[.ref i1, .ref i2]) (hTO : TupO s.heap TO #[a1, a2]) (st1 : St1 n s.heap)
    (hQ : ∀ h', (∀ c o, c ≠ z → c ≠ TO → c ≠ i1 → c ≠ i2 → s.heap.get? c = some o → h'.get? c = some o) → Q none { s with heap := h' }) : wpAny (model prog w) A (pyNext (.ref z)) Q E s := by
  have hT : s.TypeIs (.ref z) "zip" := ⟨_, hz, rfl⟩
  unfold pyNext
  refine wpAny_bind (wpAny_attempt (wpAny_callSpecial?_slot (name := Str.ofString "__next__") hT F.slot_zip_next (wpAny_call_entry F.slot_zip_next hT F.entry_zip_next ?_ (F.args_zip_next_1 _))))
  refine next_end2u (A := A.in1) S D1 hz hTI hTO st1 fun h2 e kk he => ?_
  obtain ⟨o, ho, hc⟩ := he
  exact wpAny_bind (wpAny_isInstance (T := "StopIteration") (b := true) ⟨o, ho, hc⟩ isSubtype_stop (wpAny_pure (hQ _ kk)))
end
/-- zip of two, the first of which may end first -/
def ItU (K : PySem.W.Frag) (p1 p2 : Bool × Addr) : It := ⟨(ItZ K [p1, p2]).go, (ItZ K [p1, p2]).yld, fun i H => ∃ xs, SqK K H p1 xs ∧ xs.length = i⟩
theorem turn_z2u {P : Program} {w : World} {K : PySem.W.Frag} {elts : List Expr} {kk : Nat} {tpos : Pos} {z TI TO i1 i2 : Addr} {p1 p2 : Bool × Addr} (S : Sep2 z TI TO i1 i2 [i1, p1.2] [i2, p2.2]) (ne1 : p1.2 ≠ i1) (ne2 : p2.2 ≠ i2) :
    Turn P w K (.Tuple elts kk tpos) (ItU K p1 p2) [z, TI, TO, i1, i2] z (fun i h => ZipO h z TI TO .none false ∧ TupO h TI #[.ref i1, .ref i2] ∧ (∃ a1 a2, TupO h TO #[a1, a2]) ∧ SqIt h i1 p1 i ∧ SqIt h i2 p2 i) where
  mem := (turn_z2 (P := P) (w := w) (K := K) (elts := elts) (kk := kk) (tpos := tpos) (b := false) S ne1 ne2).mem
  obj := (turn_z2 (P := P) (w := w) (K := K) (elts := elts) (kk := kk) (tpos := tpos) (b := false) S ne1 ne2).obj
  keep := (turn_z2 (P := P) (w := w) (K := K) (elts := elts) (kk := kk) (tpos := tpos) (b := false) S ne1 ne2).keep
  item := (turn_z2 (P := P) (w := w) (K := K) (elts := elts) (kk := kk) (tpos := tpos) (b := false) S ne1 ne2).item
  done := by
    intro X hP hw hK hc i pins s σ H E I hf st hg
    subst hP hw hK
    obtain ⟨hz, hTI, ⟨a1, a2, hTO⟩, h1, h2⟩ := st
    obtain ⟨xs1, hq1, hx1⟩ := hg
    obtain ⟨its1, rv1, q1, _⟩ := sq_seq I hq1
    have l1 : its1.toArray.size = i := by have := rv1.length; simp; omega
    have D1 := draws_of (prog := X.prog) (w := X.w) (A := X.A.in1) (I.ok.hd hc) i1 p1 ne1 its1
    rw [l1] at D1
    exact py_end2u S D1 hz hTI hTO ⟨h1, q1⟩ fun h2 hk => ⟨rfl, I.turnedL (t' := s.toks) (ch := [z, TI, TO, i1, i2]) (fun c o hb q => hk c o (fun q => hb (by simp [q])) (fun q => hb (by simp [q])) (fun q => hb (by simp [q])) (fun q => hb (by simp [q])) q) hf⟩
  self := (turn_z2 (P := P) (w := w) (K := K) (elts := elts) (kk := kk) (tpos := tpos) (b := false) S ne1 ne2).self
/-- the reading of zip(a, b), a the shorter -/
def iU (K : PySem.W.Frag) (f1 f2 : Bool) (ta : TA) : TI := fun σ H R => ta σ H fun vs H1 => ∃ c1 c2 : Addr, vs = [V.ref c1, V.ref c2] ∧ (∃ xs, SqK K H1 (f1, c1) xs) ∧ (∃ xs, SqK K H1 (f2, c2) xs) ∧ R (ItU K (f1, c1) (f2, c2)) H1
theorem pi_z2u {X : Cx} {e1 e2 : Expr} {ta : TA} {p pos tpos : Pos} {elts : List Expr} {kk : Nat} {b1 b2 : Bool} (hg : Gl X "zip") (hm : X.mg "zip" = none) (ha : PA X [e1, e2] ta)
    (hs : starEach [e1, e2] X.env = (false, eval e1 X.env) :: starEach [e2] X.env := by rfl) (hpl : (backTo pos (starEach [e2] X.env)).any (·.1) = false := by rfl) :
    PI X (.Tuple elts kk tpos) (.Call (.Name "zip" p) [e1, e2] [] pos) (iU X.K b1 b2 ta) := by
  refine ⟨fun pins s σ H R I h => ?_⟩
  refine Call_ (ld_blt I hg hm PyProof.Rows.boot_zip (PyProof.Rows.callWith_type1 (thn (ha.run pos pins s σ H _ I h) fun us s0 ⟨vs, H1, I1, r1, q1⟩ => ?_) hs hpl))
  obtain ⟨c1, c2, ev, ⟨xs1, hq1⟩, ⟨xs2, hq2⟩, q1⟩ := q1
  subst ev
  cases r1 with
  | cons r_1 rr1 =>
    cases r_1
    cases rr1 with
    | cons r_2 rr2 =>
      cases r_2
      cases rr2
      obtain ⟨its1, rv1, g1, lt1⟩ := sq_seq I1 hq1
      obtain ⟨its2, rv2, g2, lt2⟩ := sq_seq I1 hq2
      have frs : ∀ c, c ∈ [s0.heap.objs.size + 4, s0.heap.objs.size + 2, s0.heap.objs.size + 3, s0.heap.objs.size, s0.heap.objs.size + 1] → FpOk X pins H1 c := fun c hcm => by
        have e : c = s0.heap.objs.size + 4 ∨ c = s0.heap.objs.size + 2 ∨ c = s0.heap.objs.size + 3 ∨ c = s0.heap.objs.size ∨ c = s0.heap.objs.size + 1 := by simpa using hcm
        have hle : s0.heap.objs.size ≤ c := by
          rcases e with q | q | q | q | q
          · rw [q]; exact Nat.le_add_right _ _
          · rw [q]; exact Nat.le_add_right _ _
          · rw [q]; exact Nat.le_add_right _ _
          · rw [q]; exact Nat.le_refl _
          · rw [q]; exact Nat.le_add_right _ _
        exact I1.fpOk hle (I1.hok.fresh hle)
      refine zip_begins2 (begins_of (b1, c1) its1) (begins_of (b2, c2) its2) g1 g2 fun hA hz hTI hTO y1 y2 _ kk => iter_zip (b := false) hz ?_
      have I2 : Inv X pins σ H1 { s0 with heap := hA } := I1.kept (t' := s0.toks) kk
      exact ⟨_, [s0.heap.objs.size + 4, s0.heap.objs.size + 2, s0.heap.objs.size + 3, s0.heap.objs.size, s0.heap.objs.size + 1], _, _, H1, rfl, I2, turn_z2u (sep_new2 lt1 lt2) (Nat.ne_of_lt lt1) (Nat.ne_of_lt (Nat.lt_of_lt_of_le lt2 (Nat.le_add_right _ 1))), ⟨hz, hTI, ⟨_, _, hTO⟩, SqIt.begin y1, SqIt.begin y2⟩, frs, q1⟩
theorem walk_u {K : PySem.W.Frag} {p1 p2 : Bool × Addr} {xs ys : List V} {n : Nat} (h1 : xs.length = n) (h2 : n ≤ ys.length) : Walk (ItU K p1 p2) n (fun H => Paired (fun p xs => SqK K H p xs) [p1, p2] [xs, ys]) (YRow [xs, ys]) :=
  ⟨fun i H hi q => pair_go q fun zs hz => by
      rcases List.mem_cons.mp hz with e | hz
      · rw [e, h1]; exact hi
      · rw [List.mem_singleton.mp hz]; omega,
    fun H q => by
      cases q with
      | cons r t => exact ⟨_, r, h1⟩, fun i H x H2 _ q y => by
    obtain ⟨T, vs, h1, h2, h3, h4⟩ := y
    exact ⟨T, vs, h1, h2, h3, pair_row q h4⟩⟩
end CZ

namespace CZ
open PySem PySem.Spec PyProof.Rows L2
open PySem.Sem (wp)
section
variable {prog : Program} {w : World} {A : Around} {E : Value → Shared → Prop} {s : Shared}
theorem next_end2v {z TI TO i1 i2 : Addr} {fp1 fp2 : List Addr} {n1 n : Nat} {P1 P2 : Nat → Value → Prop} {St1 St2 : Nat → Heap → Prop} {a1 a2 : Value} {Q : Fin → Shared → Prop} (S : Sep2 z TI TO i1 i2 fp1 fp2) (D1 : Draws prog w A i1 fp1 n1 P1 St1) (D2 : Draws prog w A i2 fp2 n P2 St2)
    (hz : ZipO s.heap z TI TO .none false) (hTI : TupO s.heap TI #[.ref i1, .ref i2]) (hTO : TupO s.heap TO #[a1, a2]) (st1 : St1 n s.heap) (st2 : St2 n s.heap) (hi1 : n < n1)
    (hE : ∀ h' tk e, (∀ c o, c ≠ z → c ≠ TO → c ≠ i1 → c ≠ i2 → s.heap.get? c = some o → h'.get? c = some o) → (∃ o, h'.get? e = some o ∧ o.cls = .type "StopIteration") → E (.ref e) { s with heap := h', toks := tk }) :
    wpAny (model prog w) A (Builtin.«zip.__next__» ⟨[.ref z], []⟩) Q E s := by
  obtain ⟨hp, g, d, tk0, os⟩ := s
  refine wpAny_bind (m := field (.ref z) 2) (wpAny_field hz rfl (x := .bool false) rfl ?_)
  refine wpAny_bind (m := field (.ref z) 3) (wpAny_field hz rfl (x := .ref TI) rfl ?_)
  refine wpAny_bind (wpAny_seqItems hTI rfl ?_)
  show wpAny _ _ (Builtin.SmallTypes.ownedTupleIsFree (.ref z) >>= _) _ _ _
  rw [val_b]
  refine wpAny_bind ?_
  unfold Builtin.SmallTypes.ownedTupleIsFree
  refine wpAny_bind (wpAny_field hz rfl (x := .none) rfl (wpAny_pure ?_))
  simp only [if_true]
  refine wpAny_bind (wpAny_rule (wpAny_bind (wpAny_field hz rfl (x := .ref TO) rfl ?_)))
  refine wpAny_bind (wpAny_setField_rec hz (by simp) fun g0 hz0 hs0 => wpAny_bind ?_)
  replace hs0 : Heap.SameBut z hp g0 := hs0
  replace hz0 : ZipO g0 z TI TO .ellipsis false := hz0
  have hT0 : TupO g0 TO #[a1, a2] := hs0.extBut _ _ S.zTO.symm hTO
  have t1_0 : St1 n g0 := D1.frame _ _ _ st1 fun c hc o e => hs0.extBut c o (fun q => S.z1 (q ▸ hc)) e
  have t2_0 : St2 n g0 := D2.frame _ _ _ st2 fun c hc o e => hs0.extBut c o (fun q => S.z2 (q ▸ hc)) e
  have k0 : ∀ c o, c ≠ z → c ≠ TO → c ≠ i1 → c ≠ i2 → hp.get? c = some o → g0.get? c = some o := fun c o q0 _ _ _ e => hs0.extBut c o q0 e
  simp only [List.zipIdx_cons, List.zipIdx_nil, List.forIn_cons, List.forIn_nil]
  refine wpAny_bind (wpAny_bind (wpAny_onRaise (m := zdraw false (.ref i1)) (zdraw_item (s := ⟨g0, g, d, tk0, os⟩) D1 hi1 t1_0 fun x1 d1 tk1 p1 n1 hd1 => ?_)))
  replace hd1 : Heap.SameBut i1 g0 d1 := hd1
  have hU1 : TupO d1 TO #[a1, a2] := hd1.extBut _ _ (fun q => S.T1 (q ▸ S.m1)) hT0
  refine wpAny_bind (wpAny_seqItems (s := ⟨d1, g, d, tk1, os⟩) hU1 rfl ?_)
  refine wpAny_bind (upd_tup (s := ⟨d1, g, d, tk1, os⟩) hU1 (by simp) fun g1 hT1 hs1 => ?_)
  replace hs1 : Heap.SameBut TO d1 g1 := hs1
  have hz1 : ZipO g1 z TI TO .ellipsis false := hs1.extBut _ _ S.zTO (hd1.extBut _ _ (fun q => S.z1 (q ▸ S.m1)) hz0)
  have t2_1 : St2 n g1 := D2.frame _ _ _ t2_0 fun c hc o e => hs1.extBut c o (fun q => S.T2 (q ▸ hc)) (hd1.extBut c o (fun q => S.s1_2 (q ▸ hc)) e)
  have k1 : ∀ c o, c ≠ z → c ≠ TO → c ≠ i1 → c ≠ i2 → hp.get? c = some o → g1.get? c = some o := fun c o qz qT q1 q2 e => hs1.extBut c o qT (hd1.extBut c o q1 (k0 c o qz qT q1 q2 e))
  refine wpAny_bind (wpAny_letGo (wpAny_pure ?_))
  refine wpAny_bind (wpAny_bind (wpAny_onRaise ?_))
  refine wpAny_bind (m := Builtin.SmallTypes.nextOf (.ref i2)) (D2.done ⟨g1, g, d, tk1, os⟩ _ _ t2_1 fun y e hy he => ?_)
  replace hy : Heap.ExtBut i2 g1 y := hy
  obtain ⟨oe, hoe, hce⟩ := he
  replace hoe : y.get? e = some oe := hoe
  have hzy : ZipO y z TI TO .ellipsis false := hy _ _ (fun q => S.z2 (q ▸ S.m2)) hz1
  have hez : e ≠ z := fun x => by subst x; rw [hzy] at hoe; cases hoe; simp at hce
  refine wpAny_setField_rec (s := ⟨y, g, d, tk1, os⟩) hzy (by simp) fun y2 _ hv => ?_
  replace hv : Heap.SameBut z y y2 := hv
  exact hE y2 tk1 e (fun c o qz qT q1 q2 x => hv.extBut c o qz (hy c o q2 (k1 c o qz qT q1 q2 x))) ⟨oe, hv.extBut _ _ hez hoe, hce⟩
theorem py_end2v {z TI TO i1 i2 : Addr} {fp1 fp2 : List Addr} {n1 n : Nat} {P1 P2 : Nat → Value → Prop} {St1 St2 : Nat → Heap → Prop} {a1 a2 : Value} {Q : Option Value → Shared → Prop} (S : Sep2 z TI TO i1 i2 fp1 fp2) (D1 : Draws prog w A.in1 i1 fp1 n1 P1 St1) (D2 : Draws prog w A.in1 i2 fp2 n P2 St2)
    (hz : ZipO s.heap z TI TO .none false) (hTI : TupO s.heap TI #[.ref i1, .ref i2]) (hTO : TupO s.heap TO #[a1, a2]) (st1 : St1 n s.heap) (st2 : St2 n s.heap) (hi1 : n < n1)
    (hQ : ∀ h' tk, (∀ c o, c ≠ z → c ≠ TO → c ≠ i1 → c ≠ i2 → s.heap.get? c = some o → h'.get? c = some o) → Q none { s with heap := h', toks := tk }) : wpAny (model prog w) A (pyNext (.ref z)) Q E s := by
  have hT : s.TypeIs (.ref z) "zip" := ⟨_, hz, rfl⟩
  unfold pyNext
  refine wpAny_bind (wpAny_attempt (wpAny_callSpecial?_slot (name := Str.ofString "__next__") hT F.slot_zip_next (wpAny_call_entry F.slot_zip_next hT F.entry_zip_next ?_ (F.args_zip_next_1 _))))
  refine next_end2v (A := A.in1) S D1 D2 hz hTI hTO st1 st2 hi1 fun h2 tk e kk he => ?_
  obtain ⟨o, ho, hc⟩ := he
  exact wpAny_bind (wpAny_isInstance (T := "StopIteration") (b := true) ⟨o, ho, hc⟩ isSubtype_stop (wpAny_pure (hQ _ _ kk)))
end
/-- zip of two of any lengths -/
def ItM (K : PySem.W.Frag) (p1 p2 : Bool × Addr) : It := ⟨(ItZ K [p1, p2]).go, (ItZ K [p1, p2]).yld, fun i H => (∃ xs, SqK K H p1 xs ∧ xs.length = i) ∨ ∃ xs ys, SqK K H p1 xs ∧ SqK K H p2 ys ∧ i < xs.length ∧ ys.length = i⟩
theorem turn_z2m {P : Program} {w : World} {K : PySem.W.Frag} {elts : List Expr} {kk : Nat} {tpos : Pos} {z TI TO i1 i2 : Addr} {p1 p2 : Bool × Addr} (S : Sep2 z TI TO i1 i2 [i1, p1.2] [i2, p2.2]) (ne1 : p1.2 ≠ i1) (ne2 : p2.2 ≠ i2) :
    Turn P w K (.Tuple elts kk tpos) (ItM K p1 p2) [z, TI, TO, i1, i2] z (fun i h => ZipO h z TI TO .none false ∧ TupO h TI #[.ref i1, .ref i2] ∧ (∃ a1 a2, TupO h TO #[a1, a2]) ∧ SqIt h i1 p1 i ∧ SqIt h i2 p2 i) where
  mem := (turn_z2 (P := P) (w := w) (K := K) (elts := elts) (kk := kk) (tpos := tpos) (b := false) S ne1 ne2).mem
  obj := (turn_z2 (P := P) (w := w) (K := K) (elts := elts) (kk := kk) (tpos := tpos) (b := false) S ne1 ne2).obj
  keep := (turn_z2 (P := P) (w := w) (K := K) (elts := elts) (kk := kk) (tpos := tpos) (b := false) S ne1 ne2).keep
  item := (turn_z2 (P := P) (w := w) (K := K) (elts := elts) (kk := kk) (tpos := tpos) (b := false) S ne1 ne2).item
  done := by
    intro X hP hw hK hc i pins s σ H E I hf st hg
    subst hP hw hK
    rcases hg with ⟨xs1, hq1, hx1⟩ | ⟨xs1, xs2, hq1, hq2, hx1, hx2⟩
    · exact (turn_z2u (P := X.prog) (w := X.w) (K := X.K) (elts := elts) (kk := kk) (tpos := tpos) S ne1 ne2).done X rfl rfl rfl hc i pins s σ H E I hf st ⟨xs1, hq1, hx1⟩
    · obtain ⟨hz, hTI, ⟨a1, a2, hTO⟩, h1, h2⟩ := st
      obtain ⟨its1, rv1, q1, _⟩ := sq_seq I hq1
      obtain ⟨its2, rv2, q2, _⟩ := sq_seq I hq2
      have l1 : i < its1.toArray.size := by have := rv1.length; simp; omega
      have l2 : its2.toArray.size = i := by have := rv2.length; simp; omega
      have D1 := draws_of (prog := X.prog) (w := X.w) (A := X.A.in1) (I.ok.hd hc) i1 p1 ne1 its1
      have D2 := draws_of (prog := X.prog) (w := X.w) (A := X.A.in1) (I.ok.hd hc) i2 p2 ne2 its2
      rw [l2] at D2
      exact py_end2v S D1 D2 hz hTI hTO ⟨h1, q1⟩ ⟨h2, q2⟩ l1 fun h2 tk hk => ⟨rfl, I.turnedL (t' := tk) (ch := [z, TI, TO, i1, i2]) (fun c o hb q => hk c o (fun q => hb (by simp [q])) (fun q => hb (by simp [q])) (fun q => hb (by simp [q])) (fun q => hb (by simp [q])) q) hf⟩
  self := (turn_z2 (P := P) (w := w) (K := K) (elts := elts) (kk := kk) (tpos := tpos) (b := false) S ne1 ne2).self
/-- the reading of zip(a, b), lists of any lengths -/
def iM (K : PySem.W.Frag) (f1 f2 : Bool) (ta : TA) : TI := fun σ H R => ta σ H fun vs H1 => ∃ c1 c2 : Addr, vs = [V.ref c1, V.ref c2] ∧ (∃ xs, SqK K H1 (f1, c1) xs) ∧ (∃ xs, SqK K H1 (f2, c2) xs) ∧ R (ItM K (f1, c1) (f2, c2)) H1
theorem pi_z2m {X : Cx} {e1 e2 : Expr} {ta : TA} {p pos tpos : Pos} {elts : List Expr} {kk : Nat} {b1 b2 : Bool} (hg : Gl X "zip") (hm : X.mg "zip" = none) (ha : PA X [e1, e2] ta)
    (hs : starEach [e1, e2] X.env = (false, eval e1 X.env) :: starEach [e2] X.env := by rfl) (hpl : (backTo pos (starEach [e2] X.env)).any (·.1) = false := by rfl) :
    PI X (.Tuple elts kk tpos) (.Call (.Name "zip" p) [e1, e2] [] pos) (iM X.K b1 b2 ta) := by
  refine ⟨fun pins s σ H R I h => ?_⟩
  refine Call_ (ld_blt I hg hm PyProof.Rows.boot_zip (PyProof.Rows.callWith_type1 (thn (ha.run pos pins s σ H _ I h) fun us s0 ⟨vs, H1, I1, r1, q1⟩ => ?_) hs hpl))
  obtain ⟨c1, c2, ev, ⟨xs1, hq1⟩, ⟨xs2, hq2⟩, q1⟩ := q1
  subst ev
  cases r1 with
  | cons r_1 rr1 =>
    cases r_1
    cases rr1 with
    | cons r_2 rr2 =>
      cases r_2
      cases rr2
      obtain ⟨its1, rv1, g1, lt1⟩ := sq_seq I1 hq1
      obtain ⟨its2, rv2, g2, lt2⟩ := sq_seq I1 hq2
      have frs : ∀ c, c ∈ [s0.heap.objs.size + 4, s0.heap.objs.size + 2, s0.heap.objs.size + 3, s0.heap.objs.size, s0.heap.objs.size + 1] → FpOk X pins H1 c := fun c hcm => by
        have e : c = s0.heap.objs.size + 4 ∨ c = s0.heap.objs.size + 2 ∨ c = s0.heap.objs.size + 3 ∨ c = s0.heap.objs.size ∨ c = s0.heap.objs.size + 1 := by simpa using hcm
        have hle : s0.heap.objs.size ≤ c := by
          rcases e with q | q | q | q | q
          · rw [q]; exact Nat.le_add_right _ _
          · rw [q]; exact Nat.le_add_right _ _
          · rw [q]; exact Nat.le_add_right _ _
          · rw [q]; exact Nat.le_refl _
          · rw [q]; exact Nat.le_add_right _ _
        exact I1.fpOk hle (I1.hok.fresh hle)
      refine zip_begins2 (begins_of (b1, c1) its1) (begins_of (b2, c2) its2) g1 g2 fun hA hz hTI hTO y1 y2 _ kk => iter_zip (b := false) hz ?_
      have I2 : Inv X pins σ H1 { s0 with heap := hA } := I1.kept (t' := s0.toks) kk
      exact ⟨_, [s0.heap.objs.size + 4, s0.heap.objs.size + 2, s0.heap.objs.size + 3, s0.heap.objs.size, s0.heap.objs.size + 1], _, _, H1, rfl, I2, turn_z2m (sep_new2 lt1 lt2) (Nat.ne_of_lt lt1) (Nat.ne_of_lt (Nat.lt_of_lt_of_le lt2 (Nat.le_add_right _ 1))), ⟨hz, hTI, ⟨_, _, hTO⟩, SqIt.begin y1, SqIt.begin y2⟩, frs, q1⟩
theorem walk_m {K : PySem.W.Frag} {p1 p2 : Bool × Addr} {xs ys : List V} {n : Nat} (hn : n = min xs.length ys.length) : Walk (ItM K p1 p2) n (fun H => Paired (fun p xs => SqK K H p xs) [p1, p2] [xs, ys]) (YRow [xs, ys]) :=
  ⟨fun i H hi q => pair_go q fun zs hz => by
      rcases List.mem_cons.mp hz with e | hz
      · rw [e]; omega
      · rw [List.mem_singleton.mp hz]; omega,
    fun H q => by
      cases q with
      | cons r t =>
        cases t with
        | cons r2 t2 =>
          by_cases c : xs.length = n
          · exact .inl ⟨_, r, c⟩
          · exact .inr ⟨_, _, r, r2, by omega, by omega⟩, fun i H x H2 _ q y => by
    obtain ⟨T, vs, h1, h2, h3, h4⟩ := y
    exact ⟨T, vs, h1, h2, h3, pair_row q h4⟩⟩
/-! ### xs[::2], xs[1::2] -/
def evs {α : Type} : List α → List α
  | [] => []
  | [a] => [a]
  | a :: _ :: r => a :: evs r
def ods {α : Type} (xs : List α) : List α := evs xs.tail
theorem evs_map {α β : Type} (f : α → β) : ∀ xs : List α, evs (xs.map f) = (evs xs).map f
  | [] => rfl
  | [_] => rfl
  | a :: b :: r => by
    rw [List.map_cons, List.map_cons]
    show f a :: evs (r.map f) = _
    rw [evs_map f r]
    rfl
theorem evs_len {α : Type} : ∀ xs : List α, (evs xs).length = (xs.length + 1) / 2
  | [] => by simp [evs]
  | [_] => by simp [evs]
  | _ :: _ :: r => by
    show (evs r).length + 1 = _
    rw [evs_len r]
    show (r.length + 1) / 2 + 1 = (r.length + 1 + 1 + 1) / 2
    omega
theorem evs_paired {α β : Type} {R : α → β → Prop} : ∀ {xs : List α} {ys : List β}, Paired R xs ys → Paired R (evs xs) (evs ys)
  | _, _, .nil => .nil
  | _, _, .cons h .nil => .cons h .nil
  | _, _, .cons h (.cons _ t) => .cons h (evs_paired t)
theorem ods_paired {α β : Type} {R : α → β → Prop} {xs : List α} {ys : List β} (h : Paired R xs ys) : Paired R (ods xs) (ods ys) := by
  cases h with
  | nil => exact .nil
  | cons h t => exact evs_paired t
theorem evs_at {α : Type} : ∀ (xs : List α) (k : Nat), (evs xs)[k]? = xs[2 * k]?
  | [], k => by simp [evs]
  | [a], 0 => rfl
  | [a], k + 1 => by
    show (evs [a])[k + 1]? = _
    simp [evs, show 2 * (k + 1) = 2 * k + 1 + 1 by omega]
  | a :: b :: r, 0 => rfl
  | a :: b :: r, k + 1 => by
    show (a :: evs r)[k + 1]? = _
    rw [List.getElem?_cons_succ, evs_at r k, show 2 * (k + 1) = 2 * k + 1 + 1 by omega, List.getElem?_cons_succ, List.getElem?_cons_succ]
theorem ods_at {α : Type} (xs : List α) (k : Nat) : (ods xs)[k]? = xs[2 * k + 1]? := by
  unfold ods
  rw [evs_at]
  cases xs with
  | nil => simp
  | cons a r => rw [List.tail_cons, List.getElem?_cons_succ]
theorem ods_len {α : Type} (xs : List α) : (ods xs).length = xs.length / 2 := by
  unfold ods
  rw [evs_len, List.length_tail]
  cases xs with
  | nil => simp
  | cons a r =>
    show (r.length + 1 - 1 + 1) / 2 = (r.length + 1) / 2
    omega
theorem fm_congr {α β : Type} {f g : α → Option β} : ∀ {l : List α}, (∀ k ∈ l, f k = g k) → l.filterMap f = l.filterMap g
  | [], _ => rfl
  | a :: l, h => by
    rw [List.filterMap_cons, List.filterMap_cons, h a List.mem_cons_self, fm_congr fun k hk => h k (List.mem_cons_of_mem _ hk)]
theorem pick_list {ys : List Value} {f : Nat → Option Value} {n : Nat} (hn : n = ys.length) (h : ∀ k, k < n → f k = ys[k]?) : ((List.range n).filterMap f).toArray = ys.toArray := by
  have e : (List.range n).filterMap f = (List.range ys.toArray.size).filterMap (ys.toArray[·]?) := by
    rw [List.size_toArray, ← hn]
    refine fm_congr fun k hk => ?_
    rw [h k (List.mem_range.mp hk), List.getElem?_toArray]
  rw [e, PySem.W.krv_all]
theorem pick_evs (items : Array Value) : slicePick items none none (some 2) = (evs items.toList).toArray := by
  unfold slicePick
  have eb : sliceBounds none none (some 2) items.size = (0, (items.size : Int), 2) := by simp [sliceBounds]
  rw [eb]
  show ((sliceRange 0 (items.size : Int) 2).filterMap (items[·]?)).toArray = _
  have er : sliceRange 0 (items.size : Int) 2 = (List.range ((items.size + 1) / 2)).map fun k => 2 * k := by
    unfold sliceRange
    by_cases h : (0 : Int) < (items.size : Int)
    · have e : (((items.size : Int) - 0 + 2 - 1) / 2).toNat = (items.size + 1) / 2 := by omega
      simp only [show (2 : Int) > 0 by decide, if_true, h, e]
      refine List.map_congr_left fun k _ => ?_
      omega
    · have e : items.size = 0 := by omega
      rw [e]
      rfl
  rw [er, List.filterMap_map]
  refine pick_list (by rw [evs_len, Array.length_toList]) fun k _ => ?_
  rw [evs_at]
  simp
theorem pick_ods (items : Array Value) : slicePick items (some 1) none (some 2) = (ods items.toList).toArray := by
  unfold slicePick
  by_cases z : items.size = 0
  · have eb : sliceBounds (some 1) none (some 2) items.size = (0, (items.size : Int), 2) := by
      simp [sliceBounds, z]
      decide
    rw [eb, z]
    have e2 : items.toList = [] := List.length_eq_zero_iff.mp (by rw [Array.length_toList, z])
    rw [e2]
    rfl
  have eb : sliceBounds (some 1) none (some 2) items.size = (1, (items.size : Int), 2) := by
    simp [sliceBounds]
    omega
  rw [eb]
  show ((sliceRange 1 (items.size : Int) 2).filterMap (items[·]?)).toArray = _
  have er : sliceRange 1 (items.size : Int) 2 = (List.range (items.size / 2)).map fun k => 2 * k + 1 := by
    unfold sliceRange
    by_cases h : (1 : Int) < (items.size : Int)
    · have e : (((items.size : Int) - 1 + 2 - 1) / 2).toNat = items.size / 2 := by omega
      simp only [show (2 : Int) > 0 by decide, if_true, h, e]
      refine List.map_congr_left fun k _ => ?_
      omega
    · have e : items.size = 1 := by omega
      rw [e]
      rfl
  rw [er, List.filterMap_map]
  refine pick_list (by rw [ods_len, Array.length_toList]) fun k _ => ?_
  rw [ods_at]
  simp
/-- xs[::2] and xs[1::2] -/
def tEvs (K : PySem.W.Frag) (te : TE) : TE := fun σ H Q => te σ H fun x H1 => ∃ a xs, x = .ref a ∧ SqL K H1 a xs ∧ ∀ p, H1 p = none → Q (.ref p) (upd H1 p (.lst (evs xs)))
def tOds (K : PySem.W.Frag) (te : TE) : TE := fun σ H Q => te σ H fun x H1 => ∃ a xs, x = .ref a ∧ SqL K H1 a xs ∧ ∀ p, H1 p = none → Q (.ref p) (upd H1 p (.lst (ods xs)))
section
variable {X : Cx}
theorem pe_evs {e : Expr} {te : TE} {k : Nat} {p1 p3 pos : Pos} (he : PE X e te) : PE X (.Subscript e (.Slice none none (some (.Constant (.int 2) k p1)) p3) pos) (tEvs X.K te) := by
  refine ⟨fun pins s σ H Q I h => ?_⟩
  refine Subscript_ (thn (he.run pins s σ H _ I h) fun v s1 ⟨x, H1, I1, r1, q1⟩ => ?_)
  obtain ⟨a, xs, ex, hx, q⟩ := q1
  subst ex
  cases r1
  have hst : PO X (some (.Constant (.int 2) k p1)) (tPart (tC (.int 2))) := po_some pe_int
  refine wpAny_Slice (thn (po_none.run pins s1 σ H1 (fun o H2 => o = none ∧ H2 = H1) I1 ⟨rfl, rfl⟩) fun vl s2 ⟨l, H2, I2, pl, el, e2⟩ => ?_)
  subst el e2
  refine thn (po_none.run pins s2 σ H2 (fun o H3 => o = none ∧ H3 = H2) I2 ⟨rfl, rfl⟩) fun vu s3 ⟨u, H3, I3, pu, eu, e3⟩ => ?_
  subst eu e3
  refine thn (hst.run pins s3 σ H3 (fun o H4 => o = some 2 ∧ H4 = H3) I3 ⟨2, rfl, rfl, rfl⟩) fun vs s4 ⟨o, H4, I4, ps, eo, e4⟩ => ?_
  subst eo e4
  have I5 : Inv X pins σ H4 { s4 with heap := s4.heap.push { cls := .type "slice", data := .fields #[vl, vu, vs] } } := I4.kept (t' := s4.toks) fun b ob q => Heap.get?_push_of_some _ q
  obtain ⟨its, r, ht, hz⟩ := I5.list hx
  have hlen := r.length
  show wpAny (model X.prog X.w) X.A (subscriptTail e (.Slice none none (some (.Constant (.int 2) k p1)) p3) (.ref a) (.ref s4.heap.objs.size)) (EP X pins σ Q) X.xe { s4 with heap := s4.heap.push { cls := .type "slice", data := .fields #[vl, vu, vs] } }
  refine tail_any (ops := [.ref a, .ref s4.heap.objs.size]) ht.isList.typeIs (PySem.slot_list_getitem.lookup) ?_ (by with_unfolding_all rfl)
  refine wpAny_getItem_list_slice ht.isList (Heap.IsSliceOf.new _ vl vu vs) pl pu ps (by decide) ?_ (by rw [List.size_toArray]; omega)
  rw [pick_evs]
  refine ⟨.ref _, _, I5.laid (t' := s4.toks) (o := .lst (evs xs)) (fun b ob q => Heap.get?_push_of_some _ q) (Nat.le_refl _) ?_, rfl, q _ (I5.hok.fresh (Nat.le_refl _))⟩
  exact ⟨by rw [evs_len]; omega, _, 0, evs_paired r, Heap.get?_push_size _ rfl⟩
theorem pe_ods {e : Expr} {te : TE} {k k1 : Nat} {p0 p1 p3 pos : Pos} (he : PE X e te) : PE X (.Subscript e (.Slice (some (.Constant (.int 1) k1 p0)) none (some (.Constant (.int 2) k p1)) p3) pos) (tOds X.K te) := by
  refine ⟨fun pins s σ H Q I h => ?_⟩
  refine Subscript_ (thn (he.run pins s σ H _ I h) fun v s1 ⟨x, H1, I1, r1, q1⟩ => ?_)
  obtain ⟨a, xs, ex, hx, q⟩ := q1
  subst ex
  cases r1
  have hst : PO X (some (.Constant (.int 2) k p1)) (tPart (tC (.int 2))) := po_some pe_int
  have hlo : PO X (some (.Constant (.int 1) k1 p0)) (tPart (tC (.int 1))) := po_some pe_int
  refine wpAny_Slice (thn (hlo.run pins s1 σ H1 (fun o H2 => o = some 1 ∧ H2 = H1) I1 ⟨1, rfl, rfl, rfl⟩) fun vl s2 ⟨l, H2, I2, pl, el, e2⟩ => ?_)
  subst el e2
  refine thn (po_none.run pins s2 σ H2 (fun o H3 => o = none ∧ H3 = H2) I2 ⟨rfl, rfl⟩) fun vu s3 ⟨u, H3, I3, pu, eu, e3⟩ => ?_
  subst eu e3
  refine thn (hst.run pins s3 σ H3 (fun o H4 => o = some 2 ∧ H4 = H3) I3 ⟨2, rfl, rfl, rfl⟩) fun vs s4 ⟨o, H4, I4, ps, eo, e4⟩ => ?_
  subst eo e4
  have I5 : Inv X pins σ H4 { s4 with heap := s4.heap.push { cls := .type "slice", data := .fields #[vl, vu, vs] } } := I4.kept (t' := s4.toks) fun b ob q => Heap.get?_push_of_some _ q
  obtain ⟨its, r, ht, hz⟩ := I5.list hx
  have hlen := r.length
  show wpAny (model X.prog X.w) X.A (subscriptTail e (.Slice (some (.Constant (.int 1) k1 p0)) none (some (.Constant (.int 2) k p1)) p3) (.ref a) (.ref s4.heap.objs.size)) (EP X pins σ Q) X.xe { s4 with heap := s4.heap.push { cls := .type "slice", data := .fields #[vl, vu, vs] } }
  refine tail_any (ops := [.ref a, .ref s4.heap.objs.size]) ht.isList.typeIs (PySem.slot_list_getitem.lookup) ?_ (by with_unfolding_all rfl)
  refine wpAny_getItem_list_slice ht.isList (Heap.IsSliceOf.new _ vl vu vs) pl pu ps (by decide) ?_ (by rw [List.size_toArray]; omega)
  rw [pick_ods]
  refine ⟨.ref _, _, I5.laid (t' := s4.toks) (o := .lst (ods xs)) (fun b ob q => Heap.get?_push_of_some _ q) (Nat.le_refl _) ?_, rfl, q _ (I5.hok.fresh (Nat.le_refl _))⟩
  exact ⟨by rw [ods_len]; omega, _, 0, ods_paired r, Heap.get?_push_size _ rfl⟩
end
end CZ

namespace CZ
open PySem PySem.Spec PyProof.Rows L2
open PySem.Sem (wp)
/-! ### enumerate(zip(a, b, strict=True)): the zip's tuple stays out -/
abbrev ZipF (h : Heap) (z TI TO : Addr) (f0 : Value) (fl b : Bool) : Prop := h.get? z = some { cls := .type "zip", data := .fields #[f0, .bool fl, .bool b, .ref TI, .ref TO] }
def ZOut (f0 : Value) : Prop := f0 = .none ∨ ∃ T : Addr, f0 = rawInt T
section
variable {prog : Program} {w : World} {A : Around} {E : Value → Shared → Prop} {s : Shared} {b fl : Bool} {f0 : Value}
theorem alive_any {a : Addr} {Q : Option Obj → Shared → Prop} (h : Q (s.heap.get? a) s) : wpAny (model prog w) A (loadIfAlive a) Q E s := fun _ _ _ => h
theorem own_free {z TI TO : Addr} {Q : Bool → Shared → Prop} (hz : ZipF s.heap z TI TO f0 fl b) (hf : ZOut f0) (h1 : Q true s)
    (h2 : ∀ (T : Addr) h', ZipF h' z TI TO (rawInt T) true b → Heap.SameBut z s.heap h' → Q false { s with heap := h' }) : wpAny (model prog w) A (Builtin.SmallTypes.ownedTupleIsFree (.ref z)) Q E s := by
  unfold Builtin.SmallTypes.ownedTupleIsFree
  rcases hf with rfl | ⟨T, rfl⟩
  · exact wpAny_bind (wpAny_field hz rfl (x := .none) rfl (wpAny_pure h1))
  refine wpAny_bind (wpAny_field hz rfl (x := rawInt T) rfl ?_)
  show wpAny _ _ (loadIfAlive ((T : Int).toNat) >>= _) _ _ _
  rw [Int.toNat_natCast]
  refine wpAny_bind (alive_any ?_)
  cases hT : s.heap.get? T with
  | none =>
    simp only [Option.isNone_none, if_true]
    exact wpAny_pure h1
  | some oT =>
    simp only [Option.isNone_some, Bool.false_eq_true, if_false]
    refine wpAny_bind (wpAny_field hz rfl (x := .bool fl) rfl ?_)
    cases fl with
    | true =>
      rw [if_neg (show ¬ ((Value.bool true != Value.bool true) = true) from Bool.false_ne_true)]
      exact wpAny_pure (h2 T s.heap hz (Heap.SameBut.refl _ _))
    | false =>
      rw [if_pos (show (Value.bool false != Value.bool true) = true from rfl)]
      exact wpAny_bind (wpAny_setField_rec hz (by simp) fun h₁ hz₁ hs₁ => wpAny_pure (h2 T h₁ hz₁ hs₁))
theorem next_itemF {z TI TO i1 i2 : Addr} {fp1 fp2 : List Addr} {n1 n2 i : Nat} {P1 P2 : Nat → Value → Prop} {St1 St2 : Nat → Heap → Prop} {a1 a2 : Value} {Q : Value → Shared → Prop} (S : Sep2 z TI TO i1 i2 fp1 fp2) (D1 : Draws prog w A i1 fp1 n1 P1 St1) (D2 : Draws prog w A i2 fp2 n2 P2 St2)
    (hz : ZipF s.heap z TI TO f0 fl b) (hf : ZOut f0) (hTI : TupO s.heap TI #[.ref i1, .ref i2]) (hTO : TupO s.heap TO #[a1, a2]) (st1 : St1 i s.heap) (st2 : St2 i s.heap) (hi1 : i < n1) (hi2 : i < n2)
    (hQ : ∀ x1 x2 h' tk (T : Addr) (fl' : Bool), P1 i x1 → P2 i x2 → ZipF h' z TI TO (rawInt T) fl' b → (∃ c1 c2, TupO h' TO #[c1, c2]) → St1 (i + 1) h' → St2 (i + 1) h' → TupO h' s.heap.objs.size #[x1, x2] → h'.objs.size = s.heap.objs.size + 1 →
      (∀ c o, c ≠ z → c ≠ TO → c ≠ i1 → c ≠ i2 → s.heap.get? c = some o → h'.get? c = some o) → Q (.ref s.heap.objs.size) { s with heap := h', toks := tk }) :
    wpAny (model prog w) A (Builtin.«zip.__next__» ⟨[.ref z], []⟩) (fun fin s' => ∃ v, fin = .done (.ret v) ∧ Q v s') E s := by
  obtain ⟨hp, g, d, tk0, os⟩ := s
  refine wpAny_bind (m := field (.ref z) 2) (wpAny_field hz rfl (x := .bool b) rfl ?_)
  refine wpAny_bind (m := field (.ref z) 3) (wpAny_field hz rfl (x := .ref TI) rfl ?_)
  refine wpAny_bind (wpAny_seqItems hTI rfl ?_)
  show wpAny _ _ (Builtin.SmallTypes.ownedTupleIsFree (.ref z) >>= _) _ _ _
  rw [val_b]
  refine wpAny_bind (own_free hz hf ?_ fun T g0 hz0 hs0 => ?_)
  · simp only [if_true]
    refine wpAny_bind (wpAny_rule (wpAny_bind (wpAny_field hz rfl (x := .ref TO) rfl ?_)))
    refine wpAny_bind (wpAny_setField_rec hz (by simp) fun g0 hz0 hs0 => wpAny_bind ?_)
    replace hs0 : Heap.SameBut z hp g0 := hs0
    replace hz0 : ZipF g0 z TI TO .ellipsis fl b := hz0
    have hT0 : TupO g0 TO #[a1, a2] := hs0.extBut _ _ S.zTO.symm hTO
    have t1_0 : St1 i g0 := D1.frame _ _ _ st1 fun c hc o e => hs0.extBut c o (fun q => S.z1 (q ▸ hc)) e
    have t2_0 : St2 i g0 := D2.frame _ _ _ st2 fun c hc o e => hs0.extBut c o (fun q => S.z2 (q ▸ hc)) e
    have k0 : ∀ c o, c ≠ z → c ≠ TO → c ≠ i1 → c ≠ i2 → hp.get? c = some o → g0.get? c = some o := fun c o q0 _ _ _ e => hs0.extBut c o q0 e
    simp only [List.zipIdx_cons, List.zipIdx_nil, List.forIn_cons, List.forIn_nil]
    refine wpAny_bind (wpAny_bind (wpAny_onRaise (m := zdraw b (.ref i1)) (zdraw_item (s := ⟨g0, g, d, tk0, os⟩) D1 hi1 t1_0 fun x1 d1 tk1 p1 n1 hd1 => ?_)))
    replace hd1 : Heap.SameBut i1 g0 d1 := hd1
    have hU1 : TupO d1 TO #[a1, a2] := hd1.extBut _ _ (fun q => S.T1 (q ▸ S.m1)) hT0
    refine wpAny_bind (wpAny_seqItems (s := ⟨d1, g, d, tk1, os⟩) hU1 rfl ?_)
    refine wpAny_bind (upd_tup (s := ⟨d1, g, d, tk1, os⟩) hU1 (by simp) fun g1 hT1 hs1 => ?_)
    replace hs1 : Heap.SameBut TO d1 g1 := hs1
    replace hT1 : TupO g1 TO #[x1, a2] := hT1
    have hz1 : ZipF g1 z TI TO .ellipsis fl b := hs1.extBut _ _ S.zTO (hd1.extBut _ _ (fun q => S.z1 (q ▸ S.m1)) hz0)
    have t1_1 : St1 (i + 1) g1 := D1.frame _ _ _ n1 fun c hc o e => hs1.extBut c o (fun q => S.T1 (q ▸ hc)) e
    have t2_1 : St2 i g1 := D2.frame _ _ _ t2_0 fun c hc o e => hs1.extBut c o (fun q => S.T2 (q ▸ hc)) (hd1.extBut c o (fun q => S.s1_2 (q ▸ hc)) e)
    have k1 : ∀ c o, c ≠ z → c ≠ TO → c ≠ i1 → c ≠ i2 → hp.get? c = some o → g1.get? c = some o := fun c o qz qT q1 q2 e => hs1.extBut c o qT (hd1.extBut c o q1 (k0 c o qz qT q1 q2 e))
    have e1 : g1.objs.size = g0.objs.size := by rw [hs1.1, hd1.1]
    refine wpAny_bind (wpAny_letGo (wpAny_pure ?_))
    refine wpAny_bind (wpAny_bind (wpAny_onRaise (m := zdraw b (.ref i2)) (zdraw_item (s := ⟨g1, g, d, tk1, os⟩) D2 hi2 t2_1 fun x2 d2 tk2 p2 n2 hd2 => ?_)))
    replace hd2 : Heap.SameBut i2 g1 d2 := hd2
    have hU2 : TupO d2 TO #[x1, a2] := hd2.extBut _ _ (fun q => S.T2 (q ▸ S.m2)) hT1
    refine wpAny_bind (wpAny_seqItems (s := ⟨d2, g, d, tk2, os⟩) hU2 rfl ?_)
    refine wpAny_bind (upd_tup (s := ⟨d2, g, d, tk2, os⟩) hU2 (by simp) fun g2 hT2 hs2 => ?_)
    replace hs2 : Heap.SameBut TO d2 g2 := hs2
    replace hT2 : TupO g2 TO #[x1, x2] := hT2
    have hz2 : ZipF g2 z TI TO .ellipsis fl b := hs2.extBut _ _ S.zTO (hd2.extBut _ _ (fun q => S.z2 (q ▸ S.m2)) hz1)
    have t1_2 : St1 (i + 1) g2 := D1.frame _ _ _ t1_1 fun c hc o e => hs2.extBut c o (fun q => S.T1 (q ▸ hc)) (hd2.extBut c o (fun q => S.s2_1 (q ▸ hc)) e)
    have t2_2 : St2 (i + 1) g2 := D2.frame _ _ _ n2 fun c hc o e => hs2.extBut c o (fun q => S.T2 (q ▸ hc)) e
    have k2 : ∀ c o, c ≠ z → c ≠ TO → c ≠ i1 → c ≠ i2 → hp.get? c = some o → g2.get? c = some o := fun c o qz qT q1 q2 e => hs2.extBut c o qT (hd2.extBut c o q2 (k1 c o qz qT q1 q2 e))
    have e2 : g2.objs.size = g1.objs.size := by rw [hs2.1, hd2.1]
    refine wpAny_bind (wpAny_letGo (wpAny_pure ?_))
    refine wpAny_pure ?_
    refine wpAny_bind (wpAny_seqItems (s := ⟨g2, g, d, tk2, os⟩) hT2 rfl ?_)
    refine wpAny_bind (wpAny_newTuple ?_)
    have hsz : g2.objs.size = hp.objs.size := by rw [e2, e1, hs0.1]
    have hlt : z < g2.objs.size := Heap.lt_size hz2
    refine wpAny_bind ?_
    unfold Builtin.SmallTypes.ownedTupleHandOut
    have hy : ZipF (g2.push { cls := .type "tuple", data := .seq #[x1, x2] }) z TI TO .ellipsis fl b := Heap.get?_push_of_some _ hz2
    refine wpAny_bind (wpAny_setField_rec hy (by simp) fun u1 hu1 hv1 => wpAny_setField_rec hu1 (by simp) fun u2 hu2 hv2 => ?_)
    have up : ∀ c o, c ≠ z → g2.get? c = some o → u2.get? c = some o := fun c o q e => hv2.extBut c o q (hv1.extBut c o q (Heap.get?_push_of_some _ e))
    have hN : TupO u2 g2.objs.size #[x1, x2] := hv2.extBut _ _ (Nat.ne_of_gt hlt) (hv1.extBut _ _ (Nat.ne_of_gt hlt) (Heap.get?_push_size _ rfl))
    have hZ : ZipF u2 z TI TO (rawInt g2.objs.size) false b := hu2
    have hzs : u2.objs.size = g2.objs.size + 1 := by rw [hv2.1]; show u1.objs.size = _; rw [hv1.1]; exact Heap.size_push ..
    rw [hsz] at hN hZ hzs
    refine wpAny_pure ⟨_, rfl, ?_⟩
    show Q (.ref g2.objs.size) ⟨u2, g, d, tk2, os⟩
    rw [hsz]
    exact hQ x1 x2 u2 tk2 _ false p1 p2 hZ ⟨_, _, up _ _ S.zTO.symm hT2⟩ (D1.frame _ _ _ t1_2 fun c hc o e => up c o (fun q => S.z1 (q ▸ hc)) e) (D2.frame _ _ _ t2_2 fun c hc o e => up c o (fun q => S.z2 (q ▸ hc)) e) hN hzs fun c o qz qT q1 q2 e => up c o qz (k2 c o qz qT q1 q2 e)
  · simp only [Bool.false_eq_true, if_false]
    replace hs0 : Heap.SameBut z hp g0 := hs0
    refine wpAny_bind ?_
    rw [← Array.forIn_toList]
    simp only [List.forIn_cons, List.forIn_nil]
    have hT0 : TupO g0 TO #[a1, a2] := hs0.extBut _ _ S.zTO.symm hTO
    have t1_0 : St1 i g0 := D1.frame _ _ _ st1 fun c hc o e => hs0.extBut c o (fun q => S.z1 (q ▸ hc)) e
    have t2_0 : St2 i g0 := D2.frame _ _ _ st2 fun c hc o e => hs0.extBut c o (fun q => S.z2 (q ▸ hc)) e
    refine wpAny_bind (wpAny_bind (wpAny_holding (m := zdraw b (.ref i1)) (zdraw_item (s := ⟨g0, g, d, tk0, os⟩) D1 hi1 t1_0 fun x1 d1 tk1 p1 n1 hd1 => ?_)))
    replace hd1 : Heap.SameBut i1 g0 d1 := hd1
    have t2_1 : St2 i d1 := D2.frame _ _ _ t2_0 fun c hc o e => hd1.extBut c o (fun q => S.s1_2 (q ▸ hc)) e
    refine wpAny_pure ?_
    refine wpAny_bind (wpAny_bind (wpAny_holding (m := zdraw b (.ref i2)) (zdraw_item (s := ⟨d1, g, d, tk1, os⟩) D2 hi2 t2_1 fun x2 d2 tk2 p2 n2 hd2 => ?_)))
    replace hd2 : Heap.SameBut i2 d1 d2 := hd2
    refine wpAny_pure (wpAny_pure ?_)
    show wpAny _ _ (newTuple [x1, x2] >>= _) _ _ _
    refine wpAny_bind (wpAny_newTuple ?_)
    have hsz : d2.objs.size = hp.objs.size := by rw [hd2.1, hd1.1, hs0.1]
    have hz2 : ZipF d2 z TI TO (rawInt T) true b := hd2.extBut _ _ (fun q => S.z2 (q ▸ S.m2)) (hd1.extBut _ _ (fun q => S.z1 (q ▸ S.m1)) hz0)
    have hU2 : TupO d2 TO #[a1, a2] := hd2.extBut _ _ (fun q => S.T2 (q ▸ S.m2)) (hd1.extBut _ _ (fun q => S.T1 (q ▸ S.m1)) hT0)
    have t1_2 : St1 (i + 1) d2 := D1.frame _ _ _ n1 fun c hc o e => hd2.extBut c o (fun q => S.s2_1 (q ▸ hc)) e
    have k2 : ∀ c o, c ≠ z → c ≠ TO → c ≠ i1 → c ≠ i2 → hp.get? c = some o → d2.get? c = some o := fun c o qz qT q1 q2 e => hd2.extBut c o q2 (hd1.extBut c o q1 (hs0.extBut c o qz e))
    refine wpAny_pure ⟨_, rfl, ?_⟩
    show Q (.ref d2.objs.size) _
    have hN : TupO (d2.push { cls := .type "tuple", data := .seq #[x1, x2] }) d2.objs.size #[x1, x2] := Heap.get?_push_size _ rfl
    have hzs : (d2.push { cls := .type "tuple", data := .seq #[x1, x2] }).objs.size = d2.objs.size + 1 := Heap.size_push ..
    rw [hsz] at hN hzs ⊢
    exact hQ x1 x2 _ tk2 T true p1 p2 (Heap.get?_push_of_some _ hz2) ⟨_, _, Heap.get?_push_of_some _ hU2⟩ (D1.frame _ _ _ t1_2 fun c hc o e => Heap.get?_push_of_some _ e) (D2.frame _ _ _ n2 fun c hc o e => Heap.get?_push_of_some _ e) hN hzs fun c o qz qT q1 q2 e => Heap.get?_push_of_some _ (k2 c o qz qT q1 q2 e)
theorem next_endF {z TI TO i1 i2 : Addr} {fp1 fp2 : List Addr} {n : Nat} {P1 P2 : Nat → Value → Prop} {St1 St2 : Nat → Heap → Prop} {a1 a2 : Value} {Q : Fin → Shared → Prop} (hh : A.handled = none) (S : Sep2 z TI TO i1 i2 fp1 fp2) (D1 : Draws prog w A i1 fp1 n P1 St1) (D2 : Draws prog w A i2 fp2 n P2 St2)
    (hz : ZipF s.heap z TI TO f0 fl true) (hf : ZOut f0) (hTI : TupO s.heap TI #[.ref i1, .ref i2]) (hTO : TupO s.heap TO #[a1, a2]) (st1 : St1 n s.heap) (st2 : St2 n s.heap)
    (hE : ∀ h' e, (∀ c o, c ≠ z → c ≠ TO → c ≠ i1 → c ≠ i2 → s.heap.get? c = some o → h'.get? c = some o) → (∃ o, h'.get? e = some o ∧ o.cls = .type "StopIteration") → E (.ref e) { s with heap := h' }) :
    wpAny (model prog w) A (Builtin.«zip.__next__» ⟨[.ref z], []⟩) Q E s := by
  obtain ⟨hp, g, d, tk0, os⟩ := s
  refine wpAny_bind (m := field (.ref z) 2) (wpAny_field hz rfl (x := .bool true) rfl ?_)
  refine wpAny_bind (m := field (.ref z) 3) (wpAny_field hz rfl (x := .ref TI) rfl ?_)
  refine wpAny_bind (wpAny_seqItems hTI rfl ?_)
  show wpAny _ _ (Builtin.SmallTypes.ownedTupleIsFree (.ref z) >>= _) _ _ _
  rw [val_b]
  refine wpAny_bind (own_free hz hf ?_ fun T g0 hz0 hs0 => ?_)
  · simp only [if_true]
    refine wpAny_bind (wpAny_rule (wpAny_bind (wpAny_field hz rfl (x := .ref TO) rfl ?_)))
    refine wpAny_bind (wpAny_setField_rec hz (by simp) fun g0 hz0 hs0 => wpAny_bind ?_)
    replace hs0 : Heap.SameBut z hp g0 := hs0
    replace hz0 : ZipF g0 z TI TO .ellipsis fl true := hz0
    have t1_0 : St1 n g0 := D1.frame _ _ _ st1 fun c hc o e => hs0.extBut c o (fun q => S.z1 (q ▸ hc)) e
    have t2_0 : St2 n g0 := D2.frame _ _ _ st2 fun c hc o e => hs0.extBut c o (fun q => S.z2 (q ▸ hc)) e
    simp only [List.zipIdx_cons, List.zipIdx_nil, List.forIn_cons, List.forIn_nil]
    refine wpAny_bind (wpAny_bind (wpAny_onRaise ?_))
    refine zend_strict (s := ⟨g0, g, d, tk0, os⟩) D1 t1_0 fun y hy => ?_
    replace hy : Heap.ExtBut i1 g0 y := hy
    have hzy : ZipF y z TI TO .ellipsis fl true := hy _ _ (fun q => S.z1 (q ▸ S.m1)) hz0
    have t2_1 : St2 n y := D2.frame _ _ _ t2_0 fun c hc o e => hy c o (fun q => S.s1_2 (q ▸ hc)) e
    refine wpAny_bind (wpAny_setField_rec (s := ⟨y, g, d, tk0, os⟩) hzy (by simp) fun y1 _ hv1 => ?_)
    replace hv1 : Heap.SameBut z y y1 := hv1
    have r2_1 : St2 n y1 := D2.frame _ _ _ t2_1 fun c hc o e => hv1.extBut c o (fun q => S.z2 (q ▸ hc)) e
    have k1 : ∀ c o, c ≠ z → c ≠ TO → c ≠ i1 → c ≠ i2 → hp.get? c = some o → y1.get? c = some o := fun c o qz qT q1 q2 e => hv1.extBut c o qz (hy c o q1 (hs0.extBut c o qz e))
    refine wpAny_bind ?_
    refine wpAny_bind ?_
    simp only [List.drop_succ_cons, List.drop_zero, List.zipIdx_cons, List.zipIdx_nil, List.forIn_cons, List.forIn_nil]
    refine wpAny_bind (wpAny_bind (zend_strict (s := ⟨y1, g, d, tk0, os⟩) D2 r2_1 fun y2 hy2 => ?_))
    replace hy2 : Heap.ExtBut i2 y1 y2 := hy2
    have k2 : ∀ c o, c ≠ z → c ≠ TO → c ≠ i1 → c ≠ i2 → hp.get? c = some o → y2.get? c = some o := fun c o qz qT q1 q2 e => hy2 c o q2 (k1 c o qz qT q1 q2 e)
    refine wpAny_pure ?_
    refine wpAny_pure ?_
    exact wpAny_bind (wpAny_rule (stop_it (s := ⟨y2, g, d, tk0, os⟩) hh fun h2 e kk he => hE h2 e (fun c o qz qT q1 q2 x => kk c o (k2 c o qz qT q1 q2 x)) he))
  · simp only [Bool.false_eq_true, if_false]
    replace hs0 : Heap.SameBut z hp g0 := hs0
    refine wpAny_bind ?_
    rw [← Array.forIn_toList]
    simp only [List.forIn_cons, List.forIn_nil]
    have t1_0 : St1 n g0 := D1.frame _ _ _ st1 fun c hc o e => hs0.extBut c o (fun q => S.z1 (q ▸ hc)) e
    have t2_0 : St2 n g0 := D2.frame _ _ _ st2 fun c hc o e => hs0.extBut c o (fun q => S.z2 (q ▸ hc)) e
    refine wpAny_bind (wpAny_bind (wpAny_holding ?_))
    refine zend_strict (s := ⟨g0, g, d, tk0, os⟩) D1 t1_0 fun y hy => ?_
    replace hy : Heap.ExtBut i1 g0 y := hy
    have t2_1 : St2 n y := D2.frame _ _ _ t2_0 fun c hc o e => hy c o (fun q => S.s1_2 (q ▸ hc)) e
    refine wpAny_bind ?_
    refine wpAny_bind ?_
    simp only [List.drop_succ_cons, List.drop_zero, List.zipIdx_cons, List.zipIdx_nil, List.forIn_cons, List.forIn_nil]
    refine wpAny_bind (wpAny_bind (zend_strict (s := ⟨y, g, d, tk0, os⟩) D2 t2_1 fun y2 hy2 => ?_))
    replace hy2 : Heap.ExtBut i2 y y2 := hy2
    have k2 : ∀ c o, c ≠ z → c ≠ TO → c ≠ i1 → c ≠ i2 → hp.get? c = some o → y2.get? c = some o := fun c o qz qT q1 q2 e => hy2 c o q2 (hy c o q1 (hs0.extBut c o qz e))
    refine wpAny_pure ?_
    refine wpAny_pure ?_
    exact wpAny_bind (wpAny_rule (stop_it (s := ⟨y2, g, d, tk0, os⟩) hh fun h2 e kk he => hE h2 e (fun c o qz qT q1 q2 x => kk c o (k2 c o qz qT q1 q2 x)) he))
theorem nextOf_zip {z TI TO i1 i2 : Addr} {fp1 fp2 : List Addr} {n1 n2 i : Nat} {P1 P2 : Nat → Value → Prop} {St1 St2 : Nat → Heap → Prop} {a1 a2 : Value} {Q : Value → Shared → Prop} (S : Sep2 z TI TO i1 i2 fp1 fp2) (D1 : Draws prog w A.in1 i1 fp1 n1 P1 St1) (D2 : Draws prog w A.in1 i2 fp2 n2 P2 St2)
    (hz : ZipF s.heap z TI TO f0 fl b) (hf : ZOut f0) (hTI : TupO s.heap TI #[.ref i1, .ref i2]) (hTO : TupO s.heap TO #[a1, a2]) (st1 : St1 i s.heap) (st2 : St2 i s.heap) (hi1 : i < n1) (hi2 : i < n2)
    (hQ : ∀ x1 x2 h' tk (T : Addr) (fl' : Bool), P1 i x1 → P2 i x2 → ZipF h' z TI TO (rawInt T) fl' b → (∃ c1 c2, TupO h' TO #[c1, c2]) → St1 (i + 1) h' → St2 (i + 1) h' → TupO h' s.heap.objs.size #[x1, x2] → h'.objs.size = s.heap.objs.size + 1 →
      (∀ c o, c ≠ z → c ≠ TO → c ≠ i1 → c ≠ i2 → s.heap.get? c = some o → h'.get? c = some o) → Q (.ref s.heap.objs.size) { s with heap := h', toks := tk }) :
    wpAny (model prog w) A (Builtin.SmallTypes.nextOf (.ref z)) Q E s := by
  have hT : s.TypeIs (.ref z) "zip" := ⟨_, hz, rfl⟩
  unfold Builtin.SmallTypes.nextOf
  exact wpAny_bind (wpAny_callSpecial?_slot (name := Str.ofString "__next__") hT F.slot_zip_next (wpAny_call_entry F.slot_zip_next hT F.entry_zip_next (next_itemF (A := A.in1) S D1 D2 hz hf hTI hTO st1 st2 hi1 hi2 fun x1 x2 h' tk T fl' a b c d e f g k l => wpAny_pure (hQ x1 x2 h' tk T fl' a b c d e f g k l)) (F.args_zip_next_1 _)))
theorem nextOf_zend {z TI TO i1 i2 : Addr} {fp1 fp2 : List Addr} {n : Nat} {P1 P2 : Nat → Value → Prop} {St1 St2 : Nat → Heap → Prop} {a1 a2 : Value} {Q : Value → Shared → Prop} (hh : A.handled = none) (S : Sep2 z TI TO i1 i2 fp1 fp2) (D1 : Draws prog w A.in1 i1 fp1 n P1 St1) (D2 : Draws prog w A.in1 i2 fp2 n P2 St2)
    (hz : ZipF s.heap z TI TO f0 fl true) (hf : ZOut f0) (hTI : TupO s.heap TI #[.ref i1, .ref i2]) (hTO : TupO s.heap TO #[a1, a2]) (st1 : St1 n s.heap) (st2 : St2 n s.heap)
    (hE : ∀ h' e, (∀ c o, c ≠ z → c ≠ TO → c ≠ i1 → c ≠ i2 → s.heap.get? c = some o → h'.get? c = some o) → (∃ o, h'.get? e = some o ∧ o.cls = .type "StopIteration") → E (.ref e) { s with heap := h' }) :
    wpAny (model prog w) A (Builtin.SmallTypes.nextOf (.ref z)) Q E s := by
  have hT : s.TypeIs (.ref z) "zip" := ⟨_, hz, rfl⟩
  unfold Builtin.SmallTypes.nextOf
  exact wpAny_bind (wpAny_callSpecial?_slot (name := Str.ofString "__next__") hT F.slot_zip_next (wpAny_call_entry F.slot_zip_next hT F.entry_zip_next (next_endF (A := A.in1) hh S D1 D2 hz hf hTI hTO st1 st2 hE) (F.args_zip_next_1 _)))
/-- a turn of enumerate over what makes new objects -/
theorem enum_any {e it : Addr} {i : Nat} {old : Value} {R : Value → Heap → Nat → Prop} {Q : Value → Shared → Prop} (he : IsEnum s.heap e it i old)
    (hn : ∀ Q2 : Value → Shared → Prop, (∀ x h1 tk1, R x h1 tk1 → Q2 x { s with heap := h1, toks := tk1 }) → wpAny (model prog w) A (Builtin.SmallTypes.nextOf (.ref it)) Q2 E s)
    (ke : ∀ x h1 tk1, R x h1 tk1 → h1.get? e = s.heap.get? e)
    (hQ : ∀ x h1 tk1 h', R x h1 tk1 → IsEnumOut h' e it ((i : Int) + 1) x h1.objs.size → h'.get? h1.objs.size = some { cls := .type "tuple", data := .seq #[.int i tk1, x] } →
      (∀ b o, b ≠ e → h1.get? b = some o → h'.get? b = some o) → Q (.ref h1.objs.size) { s with heap := h', toks := tk1 + 1 }) :
    wpAny (model prog w) A (Builtin.«enumerate.__next__» ⟨[.ref e], []⟩) (fun fin s' => ∃ v, fin = .done (.ret v) ∧ Q v s') E s := by
  obtain ⟨hp, g, d, tk₀, os⟩ := s
  show wpAny _ _ (field (.ref e) 2 >>= _) _ _ _
  refine wpAny_bind (wpAny_field he rfl (x := .ref it) rfl ?_)
  refine wpAny_bind (hn _ fun x h₁ tk hPx => ?_)
  have he₁ : IsEnum h₁ e it i old := (ke x h₁ tk hPx).trans he
  show wpAny _ _ (field (.ref e) 3 >>= _) _ _ ⟨h₁, g, d, tk, os⟩
  refine wpAny_bind (wpAny_field he₁ rfl (x := rawInt i) rfl ?_)
  show wpAny _ _ (field (.ref e) 4 >>= _) _ _ ⟨h₁, g, d, tk, os⟩
  refine wpAny_bind (wpAny_field he₁ rfl (x := .none) rfl ?_)
  show wpAny _ _ (mkInt i >>= _) _ _ ⟨h₁, g, d, tk, os⟩
  refine wpAny_bind (wpAny_mkInt ?_)
  show wpAny _ _ (setField (.ref e) 3 (rawInt ((i : Int) + 1)) >>= _) _ _ ⟨h₁, g, d, tk + 1, os⟩
  refine wpAny_bind (wpAny_setField_rec he₁ (by simp) fun h₂ he₂ hs₂ => ?_)
  replace hs₂ : Heap.SameBut e h₁ h₂ := hs₂
  replace he₂ : IsEnum h₂ e it ((i : Int) + 1) old := he₂
  show wpAny _ _ (setField (.ref e) 4 .none >>= _) _ _ ⟨h₂, g, d, tk + 1, os⟩
  refine wpAny_bind (wpAny_setField_rec he₂ (by simp) fun h₃ he₃ hs₃ => ?_)
  replace hs₃ : Heap.SameBut e h₂ h₃ := hs₃
  replace he₃ : IsEnum h₃ e it ((i : Int) + 1) old := he₃
  show wpAny _ _ (newTuple [.int i tk, x] >>= _) _ _ ⟨h₃, g, d, tk + 1, os⟩
  refine wpAny_bind (wpAny_newTuple ?_)
  have he₄ : IsEnum (h₃.push { cls := .type "tuple", data := .seq #[.int i tk, x] }) e it ((i : Int) + 1) old := Heap.get?_push_of_some _ he₃
  generalize hh₄ : h₃.push { cls := .type "tuple", data := .seq #[.int i tk, x] } = h₄ at he₄
  have hsz : h₃.objs.size = h₁.objs.size := by rw [hs₃.1, hs₂.1]
  have hel : e < h₁.objs.size := Heap.lt_size he₁
  have ht₄ : h₄.get? h₁.objs.size = some { cls := .type "tuple", data := .seq #[.int i tk, x] } := by rw [← hh₄, ← hsz]; exact Heap.get?_push_size _ rfl
  have hk₄ : ∀ b o, b ≠ e → h₁.get? b = some o → h₄.get? b = some o := fun b o hbe hb => by
    rw [← hh₄]; exact Heap.get?_push_of_some _ (hs₃.extBut b o hbe (hs₂.extBut b o hbe hb))
  show wpAny _ _ (Builtin.SmallTypes.ownedTupleIsFree (.ref e) >>= _) _ _ ⟨h₄, g, d, tk + 1, os⟩
  rw [hsz]
  clear hh₄ he₃ hs₃ he₂ hs₂ hsz h₃ h₂
  refine wpAny_bind ?_
  · unfold Builtin.SmallTypes.ownedTupleIsFree
    refine wpAny_bind (wpAny_field he₄ rfl (x := .none) rfl (wpAny_pure ?_))
    simp only [if_true]
    refine wpAny_bind (wpAny_rule ?_)
    refine wpAny_bind (wpAny_field he₄ rfl (x := old) rfl ?_)
    refine wpAny_bind (wpAny_setField_rec he₄ (by simp) fun h₅ he₅ hs₅ => ?_)
    replace hs₅ : Heap.SameBut e h₄ h₅ := hs₅
    replace he₅ : IsEnum h₅ e it ((i : Int) + 1) x := he₅
    show wpAny _ _ (Builtin.SmallTypes.ownedTupleHandOut (.ref e) (.ref h₁.objs.size) >>= _) _ _ ⟨h₅, g, d, tk + 1, os⟩
    refine wpAny_bind ?_
    · unfold Builtin.SmallTypes.ownedTupleHandOut
      refine wpAny_bind (wpAny_setField_rec he₅ (by simp) fun h₆ he₆ hs₆ => ?_)
      replace hs₆ : Heap.SameBut e h₅ h₆ := hs₆
      replace he₆ : IsEnumOut h₆ e it ((i : Int) + 1) x h₁.objs.size := he₆
      refine wpAny_setField_rec he₆ (by simp) fun h₇ he₇ hs₇ => ?_
      replace hs₇ : Heap.SameBut e h₆ h₇ := hs₇
      replace he₇ : IsEnumOut h₇ e it ((i : Int) + 1) x h₁.objs.size := he₇
      refine wpAny_bind (wpAny_letGo (wpAny_pure ⟨_, rfl, hQ x h₁ tk h₇ hPx he₇ ?_ ?_⟩))
      · exact hs₇.extBut _ _ (Nat.ne_of_gt hel) (hs₆.extBut _ _ (Nat.ne_of_gt hel) (hs₅.extBut _ _ (Nat.ne_of_gt hel) ht₄))
      · exact fun b o hbe hb => hs₇.extBut b o hbe (hs₆.extBut b o hbe (hs₅.extBut b o hbe (hk₄ b o hbe hb)))
theorem pyNext_ez_item {e z TI TO i1 i2 : Addr} {fp1 fp2 : List Addr} {n1 n2 i : Nat} {P1 P2 : Nat → Value → Prop} {St1 St2 : Nat → Heap → Prop} {a1 a2 old : Value} {Q : Option Value → Shared → Prop} (S : Sep2 z TI TO i1 i2 fp1 fp2) (ez : e ≠ z) (eTO : e ≠ TO) (ei1 : e ∉ fp1) (ei2 : e ∉ fp2)
    (D1 : Draws prog w A.in1.in1 i1 fp1 n1 P1 St1) (D2 : Draws prog w A.in1.in1 i2 fp2 n2 P2 St2) (he : IsEnum s.heap e z i old)
    (hz : ZipF s.heap z TI TO f0 fl b) (hf : ZOut f0) (hTI : TupO s.heap TI #[.ref i1, .ref i2]) (hTO : TupO s.heap TO #[a1, a2]) (st1 : St1 i s.heap) (st2 : St2 i s.heap) (hi1 : i < n1) (hi2 : i < n2)
    (hQ : ∀ x1 x2 h1 h' tk (T : Addr) (fl' : Bool), P1 i x1 → P2 i x2 → IsEnumOut h' e z ((i : Int) + 1) (.ref s.heap.objs.size) (s.heap.objs.size + 1) → ZipF h' z TI TO (rawInt T) fl' b → (∃ c1 c2, TupO h' TO #[c1, c2]) → St1 (i + 1) h' → St2 (i + 1) h' →
      TupO h1 s.heap.objs.size #[x1, x2] → h1.objs.size = s.heap.objs.size + 1 → TupO h' (s.heap.objs.size + 1) #[.int i tk, .ref s.heap.objs.size] →
      (∀ c o, c ≠ z → c ≠ TO → c ≠ i1 → c ≠ i2 → s.heap.get? c = some o → h1.get? c = some o) → (∀ c o, c ≠ e → h1.get? c = some o → h'.get? c = some o) → Q (some (.ref (s.heap.objs.size + 1))) { s with heap := h', toks := tk + 1 }) :
    wpAny (model prog w) A (pyNext (.ref e)) Q E s := by
  have hT : s.TypeIs (.ref e) "enumerate" := ⟨_, he, rfl⟩
  have hel : e < s.heap.objs.size := Heap.lt_size he
  unfold pyNext
  refine wpAny_bind (wpAny_attempt (wpAny_callSpecial?_slot (name := Str.ofString "__next__") hT F.slot_enumerate_next
    (wpAny_call_entry F.slot_enumerate_next hT F.entry_enumerate_next
      (enum_any (R := fun x h1 tk1 => x = .ref s.heap.objs.size ∧ ∃ (x1 x2 : Value) (T : Addr) (fl' : Bool), P1 i x1 ∧ P2 i x2 ∧ ZipF h1 z TI TO (rawInt T) fl' b ∧ (∃ c1 c2, TupO h1 TO #[c1, c2]) ∧ St1 (i + 1) h1 ∧ St2 (i + 1) h1 ∧ TupO h1 s.heap.objs.size #[x1, x2] ∧ h1.objs.size = s.heap.objs.size + 1 ∧
          (∀ c o, c ≠ z → c ≠ TO → c ≠ i1 → c ≠ i2 → s.heap.get? c = some o → h1.get? c = some o)) he
        (fun Q2 h => nextOf_zip (A := A.in1) S D1 D2 hz hf hTI hTO st1 st2 hi1 hi2 fun x1 x2 h' tk T fl' a b c d e f g k l => h _ _ _ ⟨rfl, x1, x2, T, fl', a, b, c, d, e, f, g, k, l⟩)
        (fun x h1 tk1 r => ?_) fun x h1 tk1 h' r io ht kk => ?_) (F.args_enumerate_next_1 _))))
  · obtain ⟨_, _, _, _, _, _, _, _, _, _, _, _, _, k⟩ := r
    exact (k e _ ez eTO (fun q => ei1 (q ▸ S.m1)) (fun q => ei2 (q ▸ S.m2)) he).trans he.symm
  · obtain ⟨rfl, x1, x2, T, fl', p1, p2, zf, ⟨c1, c2, to⟩, s1, s2, tt, sz, k⟩ := r
    rw [sz] at io ht ⊢
    exact wpAny_pure (hQ x1 x2 h1 h' tk1 T fl' p1 p2 io (kk _ _ (Ne.symm ez) zf) ⟨c1, c2, kk _ _ (Ne.symm eTO) to⟩ (D1.frame _ _ _ s1 fun c hc o q => kk c o (fun q => ei1 (q ▸ hc)) q) (D2.frame _ _ _ s2 fun c hc o q => kk c o (fun q => ei2 (q ▸ hc)) q) tt sz ht k kk)
theorem pyNext_ez_end {e z TI TO i1 i2 : Addr} {fp1 fp2 : List Addr} {n : Nat} {P1 P2 : Nat → Value → Prop} {St1 St2 : Nat → Heap → Prop} {a1 a2 old : Value} {Q : Option Value → Shared → Prop} {i : Int} (hh : A.handled = none) (S : Sep2 z TI TO i1 i2 fp1 fp2)
    (D1 : Draws prog w A.in1.in1 i1 fp1 n P1 St1) (D2 : Draws prog w A.in1.in1 i2 fp2 n P2 St2) (he : IsEnum s.heap e z i old)
    (hz : ZipF s.heap z TI TO f0 fl true) (hf : ZOut f0) (hTI : TupO s.heap TI #[.ref i1, .ref i2]) (hTO : TupO s.heap TO #[a1, a2]) (st1 : St1 n s.heap) (st2 : St2 n s.heap)
    (hQ : ∀ h', (∀ c o, c ≠ z → c ≠ TO → c ≠ i1 → c ≠ i2 → s.heap.get? c = some o → h'.get? c = some o) → Q none { s with heap := h' }) :
    wpAny (model prog w) A (pyNext (.ref e)) Q E s := by
  have hT : s.TypeIs (.ref e) "enumerate" := ⟨_, he, rfl⟩
  unfold pyNext
  refine wpAny_bind (wpAny_attempt (wpAny_callSpecial?_slot (name := Str.ofString "__next__") hT F.slot_enumerate_next
    (wpAny_call_entry F.slot_enumerate_next hT F.entry_enumerate_next ?_ (F.args_enumerate_next_1 _))))
  show wpAny _ _ (field (.ref e) 2 >>= _) _ _ _
  refine wpAny_bind (wpAny_field he rfl (x := .ref z) rfl ?_)
  refine wpAny_bind (nextOf_zend (A := A.in1) hh S D1 D2 hz hf hTI hTO st1 st2 fun h' x he' hx' => ?_)
  obtain ⟨o, ho, hc⟩ := hx'
  refine wpAny_bind (wpAny_isInstance (T := "StopIteration") (b := true) ⟨o, ho, hc⟩ isSubtype_stop ?_)
  exact wpAny_pure (hQ _ he')
end
/-- what enumerate(zip(..)) gives -/
def ItEZ (K : PySem.W.Frag) (l : List (Bool × Addr)) : It :=
  ⟨(ItZ K l).go, fun i H v H2 => ∃ (T1 T2 : Addr) (vs : List V), v = .ref T2 ∧ H T1 = none ∧ H T2 = none ∧ T2 ≠ T1 ∧ H2 = upd (upd H T1 (.tup vs)) T2 (.tup [.int (i : Nat), .ref T1]) ∧ Paired (fun p v => ∀ xs, SqK K H p xs → xs[i]? = some v) l vs, (ItZ K l).stop⟩
theorem turn_ez {P : Program} {w : World} {K : PySem.W.Frag} {elts : List Expr} {kk : Nat} {tpos : Pos} {e z TI TO i1 i2 : Addr} {p1 p2 : Bool × Addr} (S : Sep2 z TI TO i1 i2 [i1, p1.2] [i2, p2.2]) (ne1 : p1.2 ≠ i1) (ne2 : p2.2 ≠ i2)
    (ez : e ≠ z) (eTI : e ≠ TI) (eTO : e ≠ TO) (ei1 : e ∉ [i1, p1.2]) (ei2 : e ∉ [i2, p2.2]) :
    Turn P w K (.Tuple elts kk tpos) (ItEZ K [p1, p2]) [e, z, TI, TO, i1, i2] e (fun i h => (∃ old, IsEnum h e z ((i : Nat) : Int) old) ∧ (∃ f0 fl, ZipF h z TI TO f0 fl true ∧ ZOut f0) ∧ TupO h TI #[.ref i1, .ref i2] ∧ (∃ a1 a2, TupO h TO #[a1, a2]) ∧ SqIt h i1 p1 i ∧ SqIt h i2 p2 i) where
  mem := by simp
  obj := fun i h st c hc => by
    obtain ⟨⟨old, ie⟩, ⟨f0, fl, hz, _⟩, hTI, ⟨a1, a2, hTO⟩, h1, h2⟩ := st
    have q : c = e ∨ c = z ∨ c = TI ∨ c = TO ∨ c = i1 ∨ c = i2 := by simpa using hc
    rcases q with q | q | q | q | q | q
    · rw [q]; exact ⟨_, ie, fun v q => nomatch q⟩
    · rw [q]; exact ⟨_, hz, fun v q => nomatch q⟩
    · rw [q]; exact ⟨_, hTI, fun v q => nomatch q⟩
    · rw [q]; exact ⟨_, hTO, fun v q => nomatch q⟩
    · rw [q]; exact h1.obj
    · rw [q]; exact h2.obj
  keep := fun i h h2 st k => by
    obtain ⟨⟨old, ie⟩, ⟨f0, fl, hz, ho⟩, hTI, ⟨a1, a2, hTO⟩, h1, h2⟩ := st
    exact ⟨⟨old, k e (by simp) _ ie⟩, ⟨f0, fl, k z (by simp) _ hz, ho⟩, k TI (by simp) _ hTI, ⟨a1, a2, k TO (by simp) _ hTO⟩, h1.at fun o q => k i1 (by simp) o q, h2.at fun o q => k i2 (by simp) o q⟩
  item := by
    intro X hP hw hK hc i pins s σ H E I hf st hg
    subst hP hw hK
    obtain ⟨⟨old, ie⟩, ⟨f0, fl, hz, ho⟩, hTI, ⟨a1, a2, hTO⟩, h1, h2⟩ := st
    obtain ⟨vs, hv⟩ := hg
    cases hv with
    | cons r1 hv1 =>
      rename_i v1 ws1
      obtain ⟨xs1, hq1, hx1⟩ := r1
      obtain ⟨its1, rv1, q1, _⟩ := sq_seq I hq1
      obtain ⟨u1, hu1, ru1⟩ := rv1.get hx1
      have g1 : its1.toArray[i]? = some u1 := by simpa using hu1
      have l1 : i < its1.toArray.size := by have := (List.getElem?_eq_some_iff.mp hu1).1; simpa using this
      cases hv1 with
      | cons r2 hv2 =>
        rename_i v2 ws2
        obtain ⟨xs2, hq2, hx2⟩ := r2
        obtain ⟨its2, rv2, q2, _⟩ := sq_seq I hq2
        obtain ⟨u2, hu2, ru2⟩ := rv2.get hx2
        have g2 : its2.toArray[i]? = some u2 := by simpa using hu2
        have l2 : i < its2.toArray.size := by have := (List.getElem?_eq_some_iff.mp hu2).1; simpa using this
        cases hv2
        have hel : e < s.heap.objs.size := Heap.lt_size ie
        refine pyNext_ez_item S ez eTO ei1 ei2 (draws_of (A := X.A.in1.in1) (I.ok.hd hc) i1 p1 ne1 its1) (draws_of (A := X.A.in1.in1) (I.ok.hd hc) i2 p2 ne2 its2) ie hz ho hTI hTO ⟨h1, q1⟩ ⟨h2, q2⟩ l1 l2 fun x1 x2 hM hA tk T fl' y1 y2 io zf to n1 n2 hT szM hT2 kM kA => ?_
        obtain rfl : u1 = x1 := Option.some.inj (g1.symm.trans y1)
        obtain rfl : u2 = x2 := Option.some.inj (g2.symm.trans y2)
        have hf1 : ∀ c ∈ [z, TI, TO, i1, i2], FpOk X pins H c := fun c hc => hf c (List.mem_cons_of_mem _ hc)
        have lts : ∀ c ∈ [e, z, TI, TO, i1, i2], c < s.heap.objs.size := fun c hcm => by
          have q : c = e ∨ c = z ∨ c = TI ∨ c = TO ∨ c = i1 ∨ c = i2 := by simpa using hcm
          rcases q with q | q | q | q | q | q
          · rw [q]; exact hel
          · rw [q]; exact Heap.lt_size hz
          · rw [q]; exact Heap.lt_size hTI
          · rw [q]; exact Heap.lt_size hTO
          · rw [q]; obtain ⟨_, e1, _⟩ := h1.obj; exact Heap.lt_size e1
          · rw [q]; obtain ⟨_, e1, _⟩ := h2.obj; exact Heap.lt_size e1
        have new : ObjOk X.prog X.w (upd H s.heap.objs.size (.tup [v1, v2])) hM s.heap.objs.size (.tup [v1, v2]) := ⟨by show 2 ≤ sizeLine; decide, [u1, u2], (.cons ru1 (.cons ru2 .nil)), ⟨_, hT, rfl, _, rfl⟩⟩
        have I1 : Inv X pins σ (upd H s.heap.objs.size (.tup [v1, v2])) { s with heap := hM, toks := tk } := I.turnedNew (t' := tk) (ch := [z, TI, TO, i1, i2]) (fun c o hb q => kM c o (fun q => hb (by simp [q])) (fun q => hb (by simp [q])) (fun q => hb (by simp [q])) (fun q => hb (by simp [q])) q) hf1 (Nat.le_refl _) new
        refine ⟨_, rfl, wpAny_letOwnedTupleGo_enum (s := { s with heap := hA, toks := tk + 1 }) io fun hB isB sb => ?_⟩
        replace sb : Heap.SameBut e hA hB := sb
        have kB : ∀ c o, c ≠ e → hA.get? c = some o → hB.get? c = some o := fun c o q r => (sb.2 c q).trans r
        have hT3 : hB.get? (s.heap.objs.size + 1) = some { cls := .type "tuple", data := .seq #[.int i tk, .ref s.heap.objs.size] } := kB _ _ (Nat.ne_of_gt (Nat.lt_succ_of_lt hel)) hT2
        have made : ObjOk X.prog X.w (upd (upd H s.heap.objs.size (.tup [v1, v2])) (s.heap.objs.size + 1) (.tup [.int (i : Nat), .ref s.heap.objs.size])) hB (s.heap.objs.size + 1) (.tup [.int (i : Nat), .ref s.heap.objs.size]) := ⟨by show 2 ≤ sizeLine; decide, [.int i tk, .ref s.heap.objs.size], .cons ⟨_, rfl⟩ (.cons rfl .nil), ⟨_, hT3, rfl, _, rfl⟩⟩
        have hf2 : ∀ c ∈ [e, z, TI, TO, i1, i2], FpOk X pins (upd H s.heap.objs.size (.tup [v1, v2])) c := fun c hcm => ⟨by rw [upd_ne (Nat.ne_of_lt (lts c hcm))]; exact (hf c hcm).1, (hf c hcm).2⟩
        have I2 := I1.turnedNew (h' := hB) (t' := tk + 1) (ch := [e, z, TI, TO, i1, i2]) (T := s.heap.objs.size + 1) (ob := .tup [.int (i : Nat), .ref s.heap.objs.size]) (fun c o hb q => kB c o (fun q => hb (by simp [q])) (kA c o (fun q => hb (by simp [q])) q)) hf2 (by show hM.objs.size ≤ _; rw [szM]; exact Nat.le_refl _) made
        refine ⟨.ref (s.heap.objs.size + 1), _, I2, rfl, ⟨s.heap.objs.size, s.heap.objs.size + 1, [v1, v2], rfl, I.hok.fresh (Nat.le_refl _), I.hok.fresh (Nat.le_succ _), Nat.succ_ne_self _, rfl, (.cons (fun l hl => by rw [sq_inj I hl hq1]; exact hx1) (.cons (fun l hl => by rw [sq_inj I hl hq2]; exact hx2) .nil))⟩, ⟨⟨.ref s.heap.objs.size, ?_⟩, ⟨_, _, kB _ _ (Ne.symm ez) zf, .inr ⟨T, rfl⟩⟩, kB _ _ (Ne.symm eTI) (kA _ _ (Ne.symm eTI) (kM _ _ S.zTI.symm S.TOTI.symm S.I1 S.I2 hTI)), ?_, n1.1.at fun o q => kB _ o (fun q => ei1 (q ▸ S.m1)) q, n2.1.at fun o q => kB _ o (fun q => ei2 (q ▸ S.m2)) q⟩, fun c hcm => ?_⟩
        · have next : ((i + 1 : Nat) : Int) = (i : Int) + 1 := by omega
          rw [next]
          exact isB
        · obtain ⟨c1, c2, to⟩ := to
          exact ⟨c1, c2, kB _ _ (Ne.symm eTO) to⟩
        · have := lts c hcm
          rw [upd_ne (Nat.ne_of_lt (Nat.lt_succ_of_lt this)), upd_ne (Nat.ne_of_lt this)]
          exact (hf c hcm).1
  done := by
    intro X hP hw hK hc i pins s σ H E I hf st hg
    subst hP hw hK
    obtain ⟨⟨old, ie⟩, ⟨f0, fl, hz, ho⟩, hTI, ⟨a1, a2, hTO⟩, h1, h2⟩ := st
    obtain ⟨xs1, hq1, hx1⟩ := hg p1 (by simp)
    obtain ⟨xs2, hq2, hx2⟩ := hg p2 (by simp)
    obtain ⟨its1, rv1, q1, _⟩ := sq_seq I hq1
    obtain ⟨its2, rv2, q2, _⟩ := sq_seq I hq2
    have l1 : its1.toArray.size = i := by have := rv1.length; simp; omega
    have l2 : its2.toArray.size = i := by have := rv2.length; simp; omega
    have D1 := draws_of (prog := X.prog) (w := X.w) (A := X.A.in1.in1) (I.ok.hd hc) i1 p1 ne1 its1
    have D2 := draws_of (prog := X.prog) (w := X.w) (A := X.A.in1.in1) (I.ok.hd hc) i2 p2 ne2 its2
    rw [l1] at D1
    rw [l2] at D2
    exact pyNext_ez_end (I.ok.hd hc) S D1 D2 ie hz ho hTI hTO ⟨h1, q1⟩ ⟨h2, q2⟩ fun h2 kk => ⟨rfl, I.turnedL (t' := s.toks) (ch := [e, z, TI, TO, i1, i2]) (fun c o hb q => kk c o (fun q => hb (by simp [q])) (fun q => hb (by simp [q])) (fun q => hb (by simp [q])) (fun q => hb (by simp [q])) q) hf⟩
  self := fun A i s Q E st h => let ⟨⟨_, ie⟩, _⟩ := st; wpAny_pyIter_enum ie h
/-- what comes of enumerate(zip(..)): (i, (x, y)) -/
def YEz (xss : List (List V)) : Nat → Hp → V → Hp → Prop := fun i H v H2 => ∃ (T1 T2 : Addr) (vs : List V), v = .ref T2 ∧ H T1 = none ∧ H T2 = none ∧ T2 ≠ T1 ∧ H2 = upd (upd H T1 (.tup vs)) T2 (.tup [.int (i : Nat), .ref T1]) ∧ Paired (fun (xs : List V) v => xs[i]? = some v) xss vs
theorem walk_ez {K : PySem.W.Frag} {l : List (Bool × Addr)} {xss : List (List V)} {n : Nat} (hn : ∀ xs ∈ xss, xs.length = n) : Walk (ItEZ K l) n (fun H => Paired (fun p xs => SqK K H p xs) l xss) (YEz xss) :=
  ⟨fun i H hi q => pair_go q fun xs hx => by rw [hn xs hx]; exact hi, fun H q => pair_stop q hn, fun i H x H2 _ q y => by
    obtain ⟨T1, T2, vs, h1, h2, h3, h4, h5, h6⟩ := y
    exact ⟨T1, T2, vs, h1, h2, h3, h4, h5, pair_row q h6⟩⟩
def iEZ (K : PySem.W.Frag) (fl : List Bool) (ta : TA) : TI := fun σ H R => ta σ H fun vs H1 => ∃ l : List Addr, vs = l.map V.ref ∧ l.length = fl.length ∧ (∀ p ∈ fl.zip l, ∃ xs, SqK K H1 p xs) ∧ R (ItEZ K (fl.zip l)) H1
theorem enumS_new {v : Value} {Hq : Heap → Prop} (bg : ∀ (pg : Program) (wo : World) (A2 : Around) (Q2 E2 : Value → Shared → Prop) (t : Shared), Hq t.heap → Q2 v t → wpAny (model pg wo) A2 (pyIter v) Q2 E2 t) :
    Meets (Builtin.«enumerate.__new__» ⟨[.type "enumerate", v], []⟩) (fun _ R t => Hq t.heap ∧
      R (.ok (.ret (.ref t.heap.objs.size))) { t with heap := t.heap.push { cls := .type "enumerate", data := .fields #[.none, .bool false, v, rawInt 0, .none, .none] } }) :=
  .of_wp fun pg wo Ar R t hyp => by
    obtain ⟨hh, gg, dd, tt, oq⟩ := t
    obtain ⟨start, goal⟩ := hyp
    have es := PySem.sub_enumerate
    have go1 : ∀ {A2 : Around} {E2 : Value → Shared → Prop} {Q2 : Value → Shared → Prop}, Q2 v ⟨hh, gg, dd, tt, oq⟩ → wpAny (model pg wo) A2 (pyIter v) Q2 E2 ⟨hh, gg, dd, tt, oq⟩ :=
      fun z => bg pg wo _ _ _ ⟨hh, gg, dd, tt, oq⟩ start z
    wp_walk using go1
    refine wpAny_stack_any fun stk => wpAny_pure ?_
    split
    · rename_i cc _ _ _ _ _
      cases (cc == Value.type "enumerate")
      all_goals
        wp_walk using go1
        exact ⟨_, rfl, goal⟩
    · wp_walk using go1
      exact ⟨_, rfl, goal⟩
theorem enumS_of {pg : Program} {wo : World} {Ar : Around} {Ex1 : Value → Shared → Prop} {t : Shared} {a : Addr} {Hq : Heap → Prop} {Qe : Value → Shared → Prop} (bg : ∀ (pg : Program) (wo : World) (A2 : Around) (Q2 E2 : Value → Shared → Prop) (t : Shared), Hq t.heap → Q2 (.ref a) t → wpAny (model pg wo) A2 (pyIter (.ref a)) Q2 E2 t) (start : Hq t.heap)
    (goal : ∀ hN, IsEnum hN t.heap.objs.size a 0 .none → (∀ c ob, t.heap.get? c = some ob → hN.get? c = some ob) → Qe (.ref t.heap.objs.size) { t with heap := hN }) :
    wpAny (model pg wo) Ar (call (.type "enumerate") [.ref a]) Qe Ex1 t := by
  refine callType_new F.called_enumerate (by decide) (F.typeCall_enumerate_1 _) (F.newCall_enumerate_1 _) (fun ob => F.args_object_init_2 ob _) F.entry_enumerate_new (enumS_new bg) ⟨start, ?_⟩
  have isE : IsEnum (t.heap.push { cls := .type "enumerate", data := .fields #[.none, .bool false, .ref a, rawInt 0, .none, .none] }) t.heap.objs.size a 0 .none := Heap.get?_push_size _ rfl
  show _ ∧ _
  exact ⟨⟨_, isE, rfl⟩, goal _ isE fun c ob z => Heap.get?_push_of_some _ z⟩
theorem pi_ez {X : Cx} {e1 e2 : Expr} {ta : TA} {p pos po pos2 tpos : Pos} {elts : List Expr} {kk : Nat} {jj : Nat} {kp kp2 : Pos} {fl : List Bool} (hfl : fl.length = 2) (hg : Gl X "zip") (hm : X.mg "zip" = none) (hg2 : Gl X "enumerate") (hm2 : X.mg "enumerate" = none) (ha : PA X [e1, e2] ta)
    (hs : starEach [e1, e2] X.env = (false, eval e1 X.env) :: starEach [e2] X.env := by rfl) (hpl : (backTo pos (starEach [e2] X.env)).any (·.1) = false := by rfl)
    (hs2 : starEach [.Call (.Name "zip" p) [e1, e2] [⟨some "strict", .Constant (.bool true) jj kp, kp2⟩] pos] X.env = [(false, eval (.Call (.Name "zip" p) [e1, e2] [⟨some "strict", .Constant (.bool true) jj kp, kp2⟩] pos) X.env)] := by rfl) :
    PI X (.Tuple elts kk tpos) (.Call (.Name "enumerate" po) [.Call (.Name "zip" p) [e1, e2] [⟨some "strict", .Constant (.bool true) jj kp, kp2⟩] pos] [] pos2) (iEZ X.K fl ta) := by
  refine ⟨fun pins s σ H R I h => ?_⟩
  refine Call_ (ld_blt I hg2 hm2 boot_enumerate (PyProof.Rows.callWith_type1 ?_ hs2 rfl))
  rw [hs2]
  show wpAny _ _ (spliced ((false, eval (.Call (.Name "zip" p) [e1, e2] [⟨some "strict", .Constant (.bool true) jj kp, kp2⟩] pos) X.env) :: [])) _ _ s
  refine Calls.spliced_cons ?_
  refine wpAny_Call_Name_kw (ld_blt I hg hm PyProof.Rows.boot_zip ?_)
  refine PySem.W.callWith_of (P := fun _ => True) ?_ (fun h _ => looks_ty "zip" True.intro) ?_
  · show ((backTo pos (starEach _ X.env)).any (·.1) || false) = false
    rw [hs, Bool.or_false]
    exact hpl
  have he : backTo pos (starEach [e1, e2] X.env) = (false, eval e1 X.env) :: backTo pos (starEach [e2] X.env) := by rw [hs]; rfl
  rw [he]
  refine PyProof.Rows.evalArgs_kwB rfl ?_
  rw [← he]
  refine thn (ha.run pos pins s σ H _ I h) fun us s0 ⟨vs, H1, I0, r1, q1⟩ => ?_
  refine PyProof.Rows.kws_cons (Constant_bool (PyProof.Rows.kws_nil ⟨True.intro, ?_⟩))
  have I1 := I0
  obtain ⟨l, ev, el, hl, q1⟩ := q1
  subst ev
  obtain ⟨b1, b2, rfl⟩ : ∃ b1 b2 : Bool, fl = [b1, b2] := match fl, hfl with | [_, _], _ => ⟨_, _, rfl⟩
  obtain ⟨c1, c2, rfl⟩ : ∃ c1 c2 : Addr, l = [c1, c2] := match l, el with | [_, _], _ => ⟨_, _, rfl⟩
  cases r1 with
  | cons r_1 rr1 =>
    cases r_1
    cases rr1 with
    | cons r_2 rr2 =>
      cases r_2
      cases rr2
      obtain ⟨xs1, hq1⟩ := hl (b1, c1) (by simp)
      obtain ⟨its1, rv1, g1, lt1⟩ := sq_seq I1 hq1
      obtain ⟨xs2, hq2⟩ := hl (b2, c2) (by simp)
      obtain ⟨its2, rv2, g2, lt2⟩ := sq_seq I1 hq2
      refine begins_strict2 (begins_of (b1, c1) its1) (begins_of (b2, c2) its2) g1 g2 fun hA hz hTI hTO y1 y2 kA => ?_
      refine Calls.spliced_nil ?_
      have szA : s0.heap.objs.size + 4 < hA.objs.size := Heap.lt_size hz
      refine enumS_of (Hq := fun h => ZipO h (s0.heap.objs.size + 4) (s0.heap.objs.size + 2) (s0.heap.objs.size + 3) .none true) (fun pg wo A2 Q2 E2 t hh q => iter_zip (b := true) hh q) hz fun hN ie kN => wpAny_pyIter_enum ie ?_
      replace ie : IsEnum hN hA.objs.size (s0.heap.objs.size + 4) 0 .none := ie
      have I2 : Inv X pins σ H1 { s0 with heap := hN } := I1.kept (t' := s0.toks) fun c o q => kN c o (kA c o q)
      have gt : ∀ k, k ≤ 4 → hA.objs.size ≠ s0.heap.objs.size + k := fun k hk => Nat.ne_of_gt (Nat.lt_of_le_of_lt (Nat.add_le_add_left hk _) szA)
      have gtl : ∀ c : Nat, c < s0.heap.objs.size → hA.objs.size ≠ c := fun c hc => Nat.ne_of_gt (Nat.lt_trans hc (Nat.lt_of_le_of_lt (Nat.le_add_right _ 4) szA))
      have lts1 : c1 < s0.heap.objs.size := lt1
      have lts2 : c2 < s0.heap.objs.size := lt2
      refine ⟨hA.objs.size, [hA.objs.size, s0.heap.objs.size + 4, s0.heap.objs.size + 2, s0.heap.objs.size + 3, s0.heap.objs.size, s0.heap.objs.size + 1], _, _, H1, rfl, I2, turn_ez (sep_new2 lt1 lt2) (Nat.ne_of_lt lt1) (Nat.ne_of_lt (Nat.lt_of_lt_of_le lt2 (Nat.le_add_right _ 1))) (gt 4 (by decide)) (gt 2 (by decide)) (gt 3 (by decide)) (fun hm => (List.mem_cons.mp hm).elim (gt 0 (by decide)) fun q => gtl _ lt1 (List.mem_singleton.mp q)) (fun hm => (List.mem_cons.mp hm).elim (gt 1 (by decide)) fun q => gtl _ lt2 (List.mem_singleton.mp q)), ⟨⟨.none, ie⟩, ⟨.none, false, kN _ _ hz, .inl rfl⟩, kN _ _ hTI, ⟨_, _, kN _ _ hTO⟩, SqIt.begin (kN _ _ y1), SqIt.begin (kN _ _ y2)⟩, fun c hcm => ?_, q1⟩
      have hle : s0.heap.objs.size ≤ c := by
        have e : c = hA.objs.size ∨ c = s0.heap.objs.size + 4 ∨ c = s0.heap.objs.size + 2 ∨ c = s0.heap.objs.size + 3 ∨ c = s0.heap.objs.size ∨ c = s0.heap.objs.size + 1 := by simpa using hcm
        rcases e with q | q | q | q | q | q
        · rw [q]; exact Nat.le_of_lt (Nat.lt_of_le_of_lt (Nat.le_add_right _ 4) szA)
        · rw [q]; exact Nat.le_add_right _ _
        · rw [q]; exact Nat.le_add_right _ _
        · rw [q]; exact Nat.le_add_right _ _
        · rw [q]; exact Nat.le_refl _
        · rw [q]; exact Nat.le_add_right _ _
      exact I1.fpOk hle (I1.hok.fresh hle)
end CZ

/-! ### promises for callers that print nothing yet, and repr -/
namespace CG
open PySem PySem.Spec PyProof.Rows L2
/-- a promise that is kept where nothing is being printed -/
structure FnOkG (P : Program) (w : World) (K : PySem.W.Frag) (mg : Str → Option Value) (base : Heap) (k : Nat) (f : Addr) (fd : FuncData) (ps : List Str) (sp : Sp) : Prop where
  size : ∀ vs H Q E, sp vs H Q E → vs.length = ps.length
  go : ∀ (A : Around) (fr : List Env) (s : Shared) (H : Hp) (as : Args) (us : List Value) (vs : List V) (Q : VK) (E : XK), A.guards = some [] → Room k A → Env0 P w K mg base A fr s H → BindsTo s fd as (ps.zip us) → Vals vs us → sp vs H Q E →
    codeAny (model P w) A (.call (.ref f) as) (CR CX0 fr P w H s Q E) s
theorem FnOkG.of {P : Program} {w : World} {K : PySem.W.Frag} {mg : Str → Option Value} {base : Heap} {k : Nat} {f : Addr} {fd : FuncData} {ps : List Str} {sp : Sp} (F : FnOk P w K mg base CX0 k f fd ps sp) : FnOkG P w K mg base k f fd ps sp :=
  ⟨F.len, fun A fr s H as us vs Q E _ => F.run A fr s H as us vs Q E⟩
section
variable {P : Program} {w : World} {K : PySem.W.Frag} {mg : Str → Option Value} {base : Heap}
/-- a def by its body, where nothing is being printed -/
theorem okG {x qual : Str} {st : Stmt} {f : Addr} {fd : FuncData} {N ps : List Str} {k : Nat} {sp : Sp} (F : Fun K x qual st f fd) (S : FnScope N ps (defScope st)) (len : ∀ vs H Q E, sp vs H Q E → vs.length = ps.length)
    (body : ∀ (cdv : Value) (A : Around) (fr : List Env) (s : Shared) (H : Hp) (vs : List V) (Q : VK) (E : XK), A.guards = some [] → Room k (A.deeper (envOfC qual (defScope st) s.heap.objs.size f cdv)) → sp vs H Q E →
      ∃ t, PSs (cxOf CX0 P w K mg base N qual (defScope st) f cdv A fr s H E).nox (defBody st) t ∧ t { nx := fun _ H' => Q .non H', rt := Q } (start N vs) H) : FnOkG P w K mg base (k + 1) f fd ps sp := by
  obtain ⟨o1, o2, d1, d2, d3, o3, cd, ct, o4, rfl, look, code⟩ := F.ex
  refine ⟨len, fun A fr s H as us vs Q E gd room en bind rel want => ?_⟩
  have kin : K.In s.heap := en.mod.kin.keeps fun b o e => (en.bs b o e).1
  have nolim : s.heap.NoLimit := en.mod.nolimit.keeps fun b o e => (en.bs b o e).1
  have kinds : ∀ y ∈ ps.zip us, (defScope st).names.lookup y.1 = some .local ∨ ((defScope st).names.lookup y.1 = some .cell ∧ ((cellsFrom (s.heap.objs.size + 1) (defScope st).names []).lookup y.1).isSome = true) := fun ⟨n, v⟩ hy =>
    (S.par n (List.of_mem_zip hy).1).imp id fun q => ⟨q, PySem.W.cellsFrom_some _ _ _ (.inl q)⟩
  refine codeAny_call_function room.depth (kin _ _ look) rfl S.co S.gen rfl (PySem.W.codeRec_of kin code) (bind _ _ _ _ ?_)
  refine wpAny_newFunctionEnv_cells S.kind kinds fun env isEnv s1 entry => ?_
  subst isEnv
  refine ⟨nolim.keeps entry.toInCall.keep, codeAny_func ?_⟩
  obtain ⟨t, rule, reading⟩ := body cd A fr s H vs Q E gd (room.deeper _) want
  have start1 : Inv (cxOf CX0 P w K mg base N qual (defScope st) f cd A fr s H E) [] (start N vs) H s1 := inv_start S room.hd en (len _ _ _ _ want) rel entry
  refine wpAny_mono (rule.nox.run [] s1 (start N vs) H _ start1 reading) (fun fl s' out => ?_) fun e s' out => out
  have close : ∀ {τ : L2.St} {H' : Hp} {v : V} {u : Value}, Inv (cxOf CX0 P w K mg base N qual (defScope st) f cd A fr s H E) [] τ H' s' → RelV v u → Q v H' → CE fr P w H s Q u s' :=
    fun {τ H' v u} J rv q => ⟨v, H', J.os, J.bare, J.base, J.hok, rv, q⟩
  match fl, out with
  | .ret u, ⟨_, _, _, J, rv, q⟩ => exact close J rv q
  | .next, ⟨_, _, J, q⟩ => exact close (v := V.non) (u := Value.none) J rfl q
  | .brk, ⟨_, _, _, q⟩ => exact q.elim
  | .cont, ⟨_, _, _, q⟩ => exact q.elim
end
section
variable {X : Cx} {k : Nat} {f : Addr} {fd : FuncData} {ps : List Str} {sp : Sp} {dvs : List V} {ds : List Value} {E : XK} {x : Str} {p pos : Pos} {e : Expr} {es : List Expr} {t : TA}
theorem goG {pins : List (Addr × Obj)} {σ : L2.St} {H : Hp} {s : Shared} {Q : VK} {us : List Value} {vs : List V} (F : FnOkG X.prog X.w X.K X.mg X.base k f fd ps sp) (gd : X.A.guards = some []) (room : Room k X.A) (bind : Binds X.K fd ps ds) (hd : Vals dvs ds) (pass : Passes CX0 X E)
    (I : Inv X pins σ H s) (rel : Vals vs us) (want : sp (vs ++ dvs) H Q E) : wpAny (model X.prog X.w) X.A (call (.ref f) us) (EP X pins σ Q) X.xe s := by
  have both : Vals (vs ++ dvs) (us ++ ds) := rel.append hd
  have size : (us ++ ds).length = ps.length := both.length.symm.trans (F.size _ _ _ _ want)
  refine wpAny_call (codeAny_mono (F.go X.A X.stack s H ⟨us, []⟩ (us ++ ds) (vs ++ dvs) Q E gd room I.env0 (bind s us I.kIn size) both want) fun out s' q => ?_)
  match out, q with
  | .error err, q => exact pass pins σ H s err s' I q
  | .ok (.ret u), q => exact I.after q
/-- the call of a def that wants nothing to be printed -/
theorem pe_callG (F : FnOkG X.prog X.w X.K X.mg X.base k f fd ps sp) (gd : X.A.guards = some []) (room : Room k X.A) (hg : Gl X x) (hm : X.mg x = some (.ref f)) (hk : PySem.W.keepIn X.K (.ref f) = true) (bind : Binds X.K fd ps ds) (hd : Vals dvs ds) (pass : Passes CX0 X E)
    (args : PA X (e :: es) t) (hdb : (x == ("__debug__" : Str)) = false := by decide) (he : starEach (e :: es) X.env = (false, eval e X.env) :: starEach es X.env := by rfl) (hpl : (backTo pos (starEach es X.env)).any (·.1) = false := by rfl) :
    PE X (.Call (.Name x p) (e :: es) [] pos) (tCall sp dvs E t) :=
  ⟨fun pins s σ H Q I h => wpAny_Call_Name_kw (ld_glob I hg hm (PySem.W.callWith_K (h₀ := X.base) I.ok.mod.kin hk (thn (args.run pos pins s σ H _ I h) fun us s1 ⟨vs, H1, I1, r, q⟩ => ⟨I1.kIn, goG F gd room bind hd pass I1 r q⟩) he hpl) hdb)⟩
/-- repr(x) of data that are known -/
def rRepr (K : PySem.W.Frag) : List V → Hp → VK → Prop := fun vs H Q => ∃ (a : Addr) (d : PyData), vs = [V.ref a] ∧ Dp K H (.ref a) d ∧ d.showable = true ∧ d.hasDict = false ∧ d.shown.length ≤ sizeLine ∧ d.depth ≤ 60 ∧ Q (.str d.shown) H
theorem cr_repr (gd : X.A.guards = some []) (hu : X.A.units + 65 < cLine) : CallR X (.builtin "repr") (rRepr X.K) := by
  intro pins s σ H vs us Q I r h
  obtain ⟨a, d, rfl, hd, sh, nd, lz, dp, q⟩ := h
  rw [Vals.ref1 r]
  obtain ⟨as, rd⟩ := Dp.reads I _ (.ref a) _ hd rfl
  refine repr_of_reads' rd sh (fun z => absurd (nd.symm.trans z) (by decide)) gd (by omega) (fun _ _ e => e) (fun h' u tk hk => ?_) lz
  exact ⟨.str d.shown, H, I.kept (t' := tk) hk, ⟨_, rfl⟩, q⟩
end
/-- the law at its script, from a promise of that kind -/
theorem law_callG {P : Program} {w : World} {K : PySem.W.Frag} {mg mb : Str → Option Value} {k : Nat} {fa a : Addr} {fd : FuncData} {x : Str} {sp : Sp} {s₁ : Shared} {us : List Value} {ms : List Int}
    (inK : K.In s₁.heap) (g1 : s₁.heap.Ns mainGlobals mg) (g2 : s₁.heap.Ns builtinsNs mb) (g3 : ∀ x : Str, x ≠ "__name__" → mb x = bootBuiltins x) (g4 : s₁.heap.NoLimit) (g5 : s₁.gens = #[])
    (at_a : s₁.heap.get? a = some { cls := .type "list", data := .seq us.toArray }) (are : IntsAre us ms) (short : ms.length ≤ sizeLine) (room : Room k callerA)
    (F : ∀ base : Heap, K.In base → base.Ns mainGlobals mg → FnOkG P w K mg base k fa fd [x] sp) (bind : ∀ (s : Shared) (u : Value), BindsTo s fd ⟨[u], []⟩ [(x, u)])
    (want : ∀ H : Hp, Only H → SqL K H a (ms.map V.int) → sp [.ref a] H (fun v _ => v = .bl true) fun _ _ _ => False) :
    codeAny (model P w) callerA (.call (.ref fa) ⟨[.ref a], []⟩) (fun r s' => r = .ok (.ret (.bool true)) ∧ OldK s₁.heap s'.heap ∧ s'.os = s₁.os ∧ AllBare s'.gens) s₁ := by
  have vals := vals_ints are
  have many := are.length
  have main : ∀ H : Hp, Only H → SqL K H a (ms.map V.int) → HOk P w H s₁.heap → (∀ b, H b ≠ none → b = a) → (H a ≠ none → K.lookup a = none) →
      codeAny (model P w) callerA (.call (.ref fa) ⟨[.ref a], []⟩) (fun r s' => r = .ok (.ret (.bool true)) ∧ OldK s₁.heap s'.heap ∧ s'.os = s₁.os ∧ AllBare s'.gens) s₁ := by
    intro H only seq hok just out
    have hid : ∀ {b : Addr} {o : Obj} {es : Array DictEntry} {n : Nat}, s₁.heap.get? b = some o → o.data = .dict es n → H b = none := fun {b o es n} e d => Classical.byContradiction fun z => by
      rw [just b z, at_a] at e
      obtain rfl := Option.some.inj e
      exact absurd (show Data.seq us.toArray _ = Data.dict es n from d) (fun z => nomatch z)
    have names : ∀ {b : Addr} {m : Str → Option Value}, s₁.heap.Ns b m → (hidT s₁.heap H).Ns b m := fun {b m} ⟨o, es, n, e, d, r⟩ => ⟨o, es, n, hidT_get e (hid e d), d, r⟩
    have inB : K.In (hidT s₁.heap H) := fun b o e => hidT_get (inK b o e) (Classical.byContradiction fun z => by
      have ba := just b z
      rw [ba] at z e
      rw [out z] at e
      exact absurd e (fun z => nomatch z))
    have known : Mod K mg (hidT s₁.heap H) := ⟨inB, names g1, ⟨mb, names g2, g3⟩, g4.elim fun mc z => ⟨mc, names z.1, z.2⟩⟩
    have entry : Env0 P w K mg (hidT s₁.heap H) callerA [] s₁ H := ⟨rfl, known, fun b o e => of_hidT e, Nat.le_of_eq (hidT_size _ _), trivial, fun b z => (List.not_mem_nil z).elim, hok, .of_eq g5⟩
    refine codeAny_mono ((F _ inB (names g1)).go callerA [] s₁ H ⟨[.ref a], []⟩ [.ref a] [.ref a] _ _ rfl room entry (bind s₁ (.ref a)) (.cons rfl .nil) (want H only seq)) fun r s' h => ?_
    match r, h with
    | .ok (.ret u), ⟨v, H', os, bare, un, hok', rel, (q : v = .bl true)⟩ =>
      subst q
      obtain rfl : u = Value.bool true := rel
      refine ⟨rfl, OldK.of_keep fun b o e => ?_, os, bare⟩
      rcases only b with z | ⟨ob, xs, z⟩
      · exact un.keep b o e z (fun m => (List.not_mem_nil m).elim) (by simp)
      · have e1 := (hok b _ z).1
        have e2 := (hok' b _ (un.frzs b ob _ z)).1
        rw [e] at e1
        rw [Option.some.inj e1]
        exact e2
  cases look : K.lookup a with
  | some o =>
    obtain rfl := Option.some.inj (at_a.symm.trans (inK a o look))
    exact main (fun _ => none) (fun _ => .inl rfl) (.inr ⟨_, us.toArray, _, look, rfl, rfl, rfl, by simpa [many] using short, by simpa using vals⟩) (fun b u z => (nomatch (show (none : Option HO) = some u from z))) (fun b z => (z rfl).elim) fun z => (z rfl).elim
  | none =>
    let O : Obj := { cls := .type "list", data := .seq us.toArray }
    let G : Hp := fun b => if b = a then some (.frz O (.lst (ms.map V.int))) else none
    have gA : G a = some (.frz O (.lst (ms.map V.int))) := if_pos rfl
    have gN : ∀ b, b ≠ a → G b = none := fun b n => if_neg n
    refine main G (fun b => ?_) (.inl (.inr ⟨O, gA⟩)) (fun b u z => ?_) (fun b z => Classical.byContradiction fun n => z (gN b n)) fun _ => look
    · rcases Decidable.em (b = a) with rfl | n
      · exact .inr ⟨_, _, gA⟩
      · exact .inl (gN b n)
    · rcases Decidable.em (b = a) with rfl | n
      · obtain rfl := Option.some.inj (gA.symm.trans z)
        exact ⟨at_a, by rw [List.length_map]; exact short, us, _, vals, at_a⟩
      · exact absurd (gN b n) (by rw [z]; exact fun e => nomatch e)
/-- a law's end, from a promise of that kind -/
theorem walk_ofG {l : PySem.W.OpenLaw} {n k : Nat} {q : Program} {loose : List Str} {XP : (Str → Option Value) → Heap → Prop} {YP : World → Heap → Prop} {d : DefRec} {x : Str}
    (most : l.most = some n) (small : n ≤ sizeLine) (plain : d.params.defaults = []) (room : Room k callerA)
    (F : ∀ (w : World) (mg : Str → Option Value) (fa : Addr) (h : Heap), YP w h → h.Ns mainGlobals mg → mg d.name = some (.ref fa) →
      ∃ (K : PySem.W.Frag) (fd : FuncData) (sp : Sp), K.In h ∧ (∀ (s : Shared) (u : Value), BindsTo s fd ⟨[u], []⟩ [(x, u)]) ∧
        (∀ (H : Hp) (a : Addr) (ms : List Int), ms.length ≤ n → Only H → SqL K H a (ms.map V.int) → sp [.ref a] H (fun v _ => v = .bl true) fun _ _ _ => False) ∧
        ∀ base : Heap, K.In base → base.Ns mainGlobals mg → FnOkG l.prog w K mg base k fa fd [x] sp) :
    PySem.W.WalkO q loose XP YP l.row.toRowW d [] (fun f vs => PySem.call f vs) :=
  Att.attach_call most plain fun w s₀ s₁ mg mb fa o pm cd doc a us ms G Y ho hd hcd named at_a are len gens => by
    obtain ⟨K, fd, sp, inK, bind, want, prom⟩ := F w mg fa _ Y G.T.g named
    exact law_callG inK G.T.g G.T.b G.T.builtins G.T.nolimit gens at_a are (Nat.le_trans len small) room prom bind fun H only seq => want H a ms len only seq
end CG

namespace CS
open PySem PySem.Spec PyProof.Rows L2
def top (i : Nat) : Stmt := PySem.Challenge.pw_calledseats_k56_calls_from_sums.main.body.getD i (.Pass ⟨0, 0, 0, 0⟩)
abbrev s_is_integer : Stmt := top 6
abbrev N_is_integer : List Str := ["value"]
theorem sc_is_integer : FnScope N_is_integer ["value"] (defScope s_is_integer) := ⟨rfl, rfl, rfl, by decide +kernel, rfl, by decide +kernel, by decide +kernel⟩
abbrev s_is_at_least : Stmt := top 7
abbrev N_is_at_least : List Str := ["value", "low"]
theorem sc_is_at_least : FnScope N_is_at_least ["value", "low"] (defScope s_is_at_least) := ⟨rfl, rfl, rfl, by decide +kernel, rfl, by decide +kernel, by decide +kernel⟩
abbrev s_is_between : Stmt := top 8
abbrev N_is_between : List Str := ["value", "low", "high"]
theorem sc_is_between : FnScope N_is_between ["value", "low", "high"] (defScope s_is_between) := ⟨rfl, rfl, rfl, by decide +kernel, rfl, by decide +kernel, by decide +kernel⟩
abbrev s_require_at_least : Stmt := top 9
abbrev N_require_at_least : List Str := ["value", "low", "name"]
theorem sc_require_at_least : FnScope N_require_at_least ["value", "low", "name"] (defScope s_require_at_least) := ⟨rfl, rfl, rfl, by decide +kernel, rfl, by decide +kernel, by decide +kernel⟩
abbrev s_require_places : Stmt := top 11
abbrev N_require_places : List Str := ["size", "targets", "seen", "index", "target"]
theorem sc_require_places : FnScope N_require_places ["size", "targets"] (defScope s_require_places) := ⟨rfl, rfl, rfl, by decide +kernel, rfl, by decide +kernel, by decide +kernel⟩
abbrev s_require_place : Stmt := top 12
abbrev N_require_place : List Str := ["size", "place", "name"]
theorem sc_require_place : FnScope N_require_place ["size", "place", "name"] (defScope s_require_place) := ⟨rfl, rfl, rfl, by decide +kernel, rfl, by decide +kernel, by decide +kernel⟩
abbrev s_require_counts : Stmt := top 13
abbrev N_require_counts : List Str := ["targets", "counts", "index", "count"]
theorem sc_require_counts : FnScope N_require_counts ["targets", "counts"] (defScope s_require_counts) := ⟨rfl, rfl, rfl, by decide +kernel, rfl, by decide +kernel, by decide +kernel⟩
abbrev s_require_sum : Stmt := top 14
abbrev N_require_sum : List Str := ["size", "targets", "place", "counts", "total", "value", "count", "target"]
theorem sc_require_sum : FnScope N_require_sum ["size", "targets", "place", "counts", "total"] (defScope s_require_sum) := ⟨rfl, rfl, rfl, by decide +kernel, rfl, by decide +kernel, by decide +kernel⟩
abbrev s_Block_init : Stmt := inClass (top 15) 0
abbrev N_Block_init : List Str := ["self", "mean", "counts", "number"]
theorem sc_Block_init : FnScope N_Block_init ["self", "mean", "counts", "number"] (defScope s_Block_init) := ⟨rfl, rfl, rfl, by decide +kernel, rfl, by decide +kernel, by decide +kernel⟩
abbrev s_Block_paired : Stmt := inClass (top 15) 1
abbrev N_Block_paired : List Str := ["self", "count"]
theorem sc_Block_paired : FnScope N_Block_paired ["self"] (defScope s_Block_paired) := ⟨rfl, rfl, rfl, by decide +kernel, rfl, by decide +kernel, by decide +kernel⟩
abbrev s_Block_joined : Stmt := inClass (top 15) 2
abbrev N_Block_joined : List Str := ["self", "other", "counts", "count", "more"]
theorem sc_Block_joined : FnScope N_Block_joined ["self", "other"] (defScope s_Block_joined) := ⟨rfl, rfl, rfl, by decide +kernel, rfl, by decide +kernel, by decide +kernel⟩
abbrev s_next_blocks : Stmt := top 16
abbrev N_next_blocks : List Str := ["blocks", "found", "parity", "single", "block", "one", "other"]
theorem sc_next_blocks : FnScope N_next_blocks ["blocks"] (defScope s_next_blocks) := ⟨rfl, rfl, rfl, by decide +kernel, rfl, by decide +kernel, by decide +kernel⟩
abbrev s_call_from_sum : Stmt := top 17
abbrev N_call_from_sum : List Str := ["size", "targets", "place", "counts", "total", "blocks", "index", "target", "count", "number", "forward", "backward", "other", "taken"]
theorem sc_call_from_sum : FnScope N_call_from_sum ["size", "targets", "place", "counts"] (defScope s_call_from_sum) := ⟨rfl, rfl, rfl, by decide +kernel, rfl, by decide +kernel, by decide +kernel⟩
abbrev s_law_cell_at : Stmt := top 19
abbrev N_law_cell_at : List Str := ["_law_script", "_law_k"]
theorem sc_law_cell_at : FnScope N_law_cell_at ["_law_script", "_law_k"] (defScope s_law_cell_at) := ⟨rfl, rfl, rfl, by decide +kernel, rfl, by decide +kernel, by decide +kernel⟩
abbrev s_law_source : Stmt := top 20
abbrev N_law_source : List Str := ["_law_cell"]
theorem sc_law_source : FnScope N_law_source ["_law_cell"] (defScope s_law_source) := ⟨rfl, rfl, rfl, by decide +kernel, rfl, by decide +kernel, by decide +kernel⟩
abbrev s_law_take : Stmt := top 21
abbrev N_law_take : List Str := ["_law_source_here", "_law_bound", "_law_digit", "_law_prime", "_law_mixed"]
theorem sc_law_take : FnScope N_law_take ["_law_source_here", "_law_bound"] (defScope s_law_take) := ⟨rfl, rfl, rfl, by decide +kernel, rfl, by decide +kernel, by decide +kernel⟩
abbrev s_law_large : Stmt := top 22
abbrev N_law_large : List Str := ["_law_source_here", "_law_bound", "_law_total", "_law_part"]
theorem sc_law_large : FnScope N_law_large ["_law_source_here", "_law_bound"] (defScope s_law_large) := ⟨rfl, rfl, rfl, by decide +kernel, rfl, by decide +kernel, by decide +kernel⟩
abbrev s_law_shuffled : Stmt := top 23
abbrev N_law_shuffled : List Str := ["_law_source_here", "_law_items", "_law_pool", "_law_drawn"]
theorem sc_law_shuffled : FnScope N_law_shuffled ["_law_source_here", "_law_items"] (defScope s_law_shuffled) := ⟨rfl, rfl, rfl, by decide +kernel, rfl, by decide +kernel, by decide +kernel⟩
abbrev s_law_gcd : Stmt := top 24
abbrev N_law_gcd : List Str := ["_law_a", "_law_b"]
theorem sc_law_gcd : FnScope N_law_gcd ["_law_a", "_law_b"] (defScope s_law_gcd) := ⟨rfl, rfl, rfl, by decide +kernel, rfl, by decide +kernel, by decide +kernel⟩
abbrev s_law_inverse : Stmt := top 25
abbrev N_law_inverse : List Str := ["_law_number", "_law_modulus", "_law_low", "_law_high", "_law_quotient"]
theorem sc_law_inverse : FnScope N_law_inverse ["_law_number", "_law_modulus"] (defScope s_law_inverse) := ⟨rfl, rfl, rfl, by decide +kernel, rfl, by decide +kernel, by decide +kernel⟩
abbrev s_law_targets : Stmt := top 26
abbrev N_law_targets : List Str := ["_law_source_here", "_law_ring", "_law_bound", "_law_found", "_law_turn", "_law_spot"]
theorem sc_law_targets : FnScope N_law_targets ["_law_source_here", "_law_ring", "_law_bound"] (defScope s_law_targets) := ⟨rfl, rfl, rfl, by decide +kernel, rfl, by decide +kernel, by decide +kernel⟩
abbrev s_law_made : Stmt := top 27
abbrev N_law_made : List Str := ["_law_source_here", "_law_ring", "_law_goals", "_law_depth", "_law_shared", "_law_amounts", "_law_turn", "_law_drawn", "_law_rest", "_law_at", "_law_total", "_law_part", "_law_spot", "_law_amount", "_law_goal"]
theorem sc_law_made : FnScope N_law_made ["_law_source_here", "_law_ring", "_law_goals", "_law_depth"] (defScope s_law_made) := ⟨rfl, rfl, rfl, by decide +kernel, rfl, by decide +kernel, by decide +kernel⟩
abbrev s_law_is_sum : Stmt := top 28
abbrev N_law_is_sum : List Str := ["_law_ring", "_law_goals", "_law_spot", "_law_depth", "_law_amounts", "_law_total", "_law_one", "_law_amount", "_law_goal"]
theorem sc_law_is_sum : FnScope N_law_is_sum ["_law_ring", "_law_goals", "_law_spot", "_law_depth", "_law_amounts"] (defScope s_law_is_sum) := ⟨rfl, rfl, rfl, by decide +kernel, rfl, by decide +kernel, by decide +kernel⟩
abbrev s_law_right : Stmt := top 29
abbrev N_law_right : List Str := ["_law_ring", "_law_goals", "_law_spot", "_law_depth", "_law_amounts", "_law_before", "_law_found", "_law_far", "_law_ahead", "_law_behind", "_law_as_was", "_law_again"]
theorem sc_law_right : FnScope N_law_right ["_law_ring", "_law_goals", "_law_spot", "_law_depth", "_law_amounts"] (defScope s_law_right) := ⟨rfl, rfl, rfl, by decide +kernel, rfl, by decide +kernel, by decide +kernel⟩
abbrev s_law : Stmt := top 30
abbrev N_law : List Str := ["_law_script", "_law_cell", "_law_source_here", "_law_turn", "_law_power", "_law_rings", "_law_ring", "_law_goals", "_law_depth", "_law_spot", "_law_amounts"]
theorem sc_law : FnScope N_law ["_law_script"] (defScope s_law) := ⟨rfl, rfl, rfl, by decide +kernel, rfl, by decide +kernel, by decide +kernel⟩
/-- what the top has written -/
structure TX (K : PySem.W.Frag) (mg : Str → Option Value) where
  f_is_integer : Addr
  fd_is_integer : FuncData
  F_is_integer : Fun K "is_integer" "is_integer" s_is_integer f_is_integer fd_is_integer
  b_is_integer : Binds K fd_is_integer ["value"] []
  m_is_integer : mg "is_integer" = some (.ref f_is_integer)
  f_is_at_least : Addr
  fd_is_at_least : FuncData
  F_is_at_least : Fun K "is_at_least" "is_at_least" s_is_at_least f_is_at_least fd_is_at_least
  b_is_at_least : Binds K fd_is_at_least ["value", "low"] []
  m_is_at_least : mg "is_at_least" = some (.ref f_is_at_least)
  f_is_between : Addr
  fd_is_between : FuncData
  F_is_between : Fun K "is_between" "is_between" s_is_between f_is_between fd_is_between
  b_is_between : Binds K fd_is_between ["value", "low", "high"] []
  m_is_between : mg "is_between" = some (.ref f_is_between)
  f_require_at_least : Addr
  fd_require_at_least : FuncData
  F_require_at_least : Fun K "require_at_least" "require_at_least" s_require_at_least f_require_at_least fd_require_at_least
  b_require_at_least : Binds K fd_require_at_least ["value", "low", "name"] []
  m_require_at_least : mg "require_at_least" = some (.ref f_require_at_least)
  f_require_places : Addr
  fd_require_places : FuncData
  F_require_places : Fun K "require_places" "require_places" s_require_places f_require_places fd_require_places
  b_require_places : Binds K fd_require_places ["size", "targets"] []
  m_require_places : mg "require_places" = some (.ref f_require_places)
  f_require_place : Addr
  fd_require_place : FuncData
  F_require_place : Fun K "require_place" "require_place" s_require_place f_require_place fd_require_place
  b_require_place : Binds K fd_require_place ["size", "place", "name"] []
  m_require_place : mg "require_place" = some (.ref f_require_place)
  f_require_counts : Addr
  fd_require_counts : FuncData
  F_require_counts : Fun K "require_counts" "require_counts" s_require_counts f_require_counts fd_require_counts
  b_require_counts : Binds K fd_require_counts ["targets", "counts"] []
  m_require_counts : mg "require_counts" = some (.ref f_require_counts)
  f_require_sum : Addr
  fd_require_sum : FuncData
  F_require_sum : Fun K "require_sum" "require_sum" s_require_sum f_require_sum fd_require_sum
  b_require_sum : Binds K fd_require_sum ["size", "targets", "place", "counts", "total"] []
  m_require_sum : mg "require_sum" = some (.ref f_require_sum)
  f_Block_init : Addr
  fd_Block_init : FuncData
  F_Block_init : Fun K "__init__" "Block.__init__" s_Block_init f_Block_init fd_Block_init
  b_Block_init : Binds K fd_Block_init ["self", "mean", "counts", "number"] []
  f_Block_paired : Addr
  fd_Block_paired : FuncData
  F_Block_paired : Fun K "paired" "Block.paired" s_Block_paired f_Block_paired fd_Block_paired
  b_Block_paired : Binds K fd_Block_paired ["self"] []
  f_Block_joined : Addr
  fd_Block_joined : FuncData
  F_Block_joined : Fun K "joined" "Block.joined" s_Block_joined f_Block_joined fd_Block_joined
  b_Block_joined : Binds K fd_Block_joined ["self", "other"] []
  f_next_blocks : Addr
  fd_next_blocks : FuncData
  F_next_blocks : Fun K "next_blocks" "next_blocks" s_next_blocks f_next_blocks fd_next_blocks
  b_next_blocks : Binds K fd_next_blocks ["blocks"] []
  m_next_blocks : mg "next_blocks" = some (.ref f_next_blocks)
  f_call_from_sum : Addr
  fd_call_from_sum : FuncData
  F_call_from_sum : Fun K "call_from_sum" "call_from_sum" s_call_from_sum f_call_from_sum fd_call_from_sum
  b_call_from_sum : Binds K fd_call_from_sum ["size", "targets", "place", "counts"] []
  m_call_from_sum : mg "call_from_sum" = some (.ref f_call_from_sum)
  f_law_cell_at : Addr
  fd_law_cell_at : FuncData
  F_law_cell_at : Fun K "_law_cell_at" "_law_cell_at" s_law_cell_at f_law_cell_at fd_law_cell_at
  b_law_cell_at : Binds K fd_law_cell_at ["_law_script", "_law_k"] []
  m_law_cell_at : mg "_law_cell_at" = some (.ref f_law_cell_at)
  f_law_source : Addr
  fd_law_source : FuncData
  F_law_source : Fun K "_law_source" "_law_source" s_law_source f_law_source fd_law_source
  b_law_source : Binds K fd_law_source ["_law_cell"] []
  m_law_source : mg "_law_source" = some (.ref f_law_source)
  f_law_take : Addr
  fd_law_take : FuncData
  F_law_take : Fun K "_law_take" "_law_take" s_law_take f_law_take fd_law_take
  b_law_take : Binds K fd_law_take ["_law_source_here", "_law_bound"] []
  m_law_take : mg "_law_take" = some (.ref f_law_take)
  f_law_large : Addr
  fd_law_large : FuncData
  F_law_large : Fun K "_law_large" "_law_large" s_law_large f_law_large fd_law_large
  b_law_large : Binds K fd_law_large ["_law_source_here", "_law_bound"] []
  m_law_large : mg "_law_large" = some (.ref f_law_large)
  f_law_shuffled : Addr
  fd_law_shuffled : FuncData
  F_law_shuffled : Fun K "_law_shuffled" "_law_shuffled" s_law_shuffled f_law_shuffled fd_law_shuffled
  b_law_shuffled : Binds K fd_law_shuffled ["_law_source_here", "_law_items"] []
  m_law_shuffled : mg "_law_shuffled" = some (.ref f_law_shuffled)
  f_law_gcd : Addr
  fd_law_gcd : FuncData
  F_law_gcd : Fun K "_law_gcd" "_law_gcd" s_law_gcd f_law_gcd fd_law_gcd
  b_law_gcd : Binds K fd_law_gcd ["_law_a", "_law_b"] []
  m_law_gcd : mg "_law_gcd" = some (.ref f_law_gcd)
  f_law_inverse : Addr
  fd_law_inverse : FuncData
  F_law_inverse : Fun K "_law_inverse" "_law_inverse" s_law_inverse f_law_inverse fd_law_inverse
  b_law_inverse : Binds K fd_law_inverse ["_law_number", "_law_modulus"] []
  m_law_inverse : mg "_law_inverse" = some (.ref f_law_inverse)
  f_law_targets : Addr
  fd_law_targets : FuncData
  F_law_targets : Fun K "_law_targets" "_law_targets" s_law_targets f_law_targets fd_law_targets
  b_law_targets : Binds K fd_law_targets ["_law_source_here", "_law_ring", "_law_bound"] []
  m_law_targets : mg "_law_targets" = some (.ref f_law_targets)
  f_law_made : Addr
  fd_law_made : FuncData
  F_law_made : Fun K "_law_made" "_law_made" s_law_made f_law_made fd_law_made
  b_law_made : Binds K fd_law_made ["_law_source_here", "_law_ring", "_law_goals", "_law_depth"] []
  m_law_made : mg "_law_made" = some (.ref f_law_made)
  f_law_is_sum : Addr
  fd_law_is_sum : FuncData
  F_law_is_sum : Fun K "_law_is_sum" "_law_is_sum" s_law_is_sum f_law_is_sum fd_law_is_sum
  b_law_is_sum : Binds K fd_law_is_sum ["_law_ring", "_law_goals", "_law_spot", "_law_depth", "_law_amounts"] []
  m_law_is_sum : mg "_law_is_sum" = some (.ref f_law_is_sum)
  f_law_right : Addr
  fd_law_right : FuncData
  F_law_right : Fun K "_law_right" "_law_right" s_law_right f_law_right fd_law_right
  b_law_right : Binds K fd_law_right ["_law_ring", "_law_goals", "_law_spot", "_law_depth", "_law_amounts"] []
  m_law_right : mg "_law_right" = some (.ref f_law_right)
  f_law : Addr
  fd_law : FuncData
  F_law : Fun K "law" "law" s_law f_law fd_law
  b_law : Binds K fd_law ["_law_script"] []
  m_law : mg "law" = some (.ref f_law)
  C_Block : Addr
  cl_Block : Cls K C_Block
  m_Block : mg "Block" = some (.ref C_Block)
  M_Block : Mk K C_Block f_Block_init
  me_Block_paired : Meth K C_Block "paired" f_Block_paired
  me_Block_joined : Meth K C_Block "joined" f_Block_joined
  n_Block_mean : NoAttr K C_Block "mean"
  n_Block_counts : NoAttr K C_Block "counts"
  n_Block_number : NoAttr K C_Block "number"
  z_abs : mg "abs" = none
  z_bool : mg "bool" = none
  z_enumerate : mg "enumerate" = none
  z_int : mg "int" = none
  z_isinstance : mg "isinstance" = none
  z_len : mg "len" = none
  z_list : mg "list" = none
  z_min : mg "min" = none
  z_range : mg "range" = none
  z_repr : mg "repr" = none
  z_sum : mg "sum" = none
  z_tuple : mg "tuple" = none
  z_zip : mg "zip" = none
/-- not an int (a bool is none) -/
def NotI (K : PySem.W.Frag) (H : Hp) (x : V) : Prop := ∃ t b1 b2, TyX K H x t ∧ PySem.W.kitOne K t (.type "int") = some b1 ∧ PySem.W.kitOne K t (.type "bool") = some b2 ∧ (b1 && !b2) = false
/-- what x is, if an int -/
def IsI (K : PySem.W.Frag) (H : Hp) (x : V) : Option Int → Prop
  | some i => x = .int i
  | none => NotI K H x
def atLeast : Option Int → Int → Bool
  | some i, low => decide (low ≤ i)
  | none, _ => false
def between : Option Int → Int → Int → Bool
  | some i, low, high => decide (low ≤ i) && decide (i ≤ high)
  | none, _, _ => false

section
variable {P : Program} {w : World} {K : PySem.W.Frag} {mg : Str → Option Value} {base : Heap}
def sp_is_integer (K : PySem.W.Frag) : Sp := fun vs H Q _ => ∃ x o, vs = [x] ∧ IsI K H x o ∧ Q (.bl o.isSome) H
theorem ok_is_integer (T : TX K mg) : FnOk P w K mg base CX0 1 T.f_is_integer T.fd_is_integer ["value"] (sp_is_integer K) := by
  refine T.F_is_integer.ok sc_is_integer (fun vs H Q E h => ?_) (fun cdv A outer s H vs Q E hr h => ?_)
  · obtain ⟨x, o, rfl, _⟩ := h
    rfl
  · obtain ⟨x, o, rfl, hx, k⟩ := h
    refine ⟨_, (pss_one (ps_ret (pe_and (pe_callB call_isi (by rfl) T.z_isinstance (by decide +kernel) (pa_cons (pv 0) (pa_cons (pe_bltn (v := .ty "int") rfl T.z_int (by decide +kernel) rfl) pa_nil))) (pe_one (pe_not (pe_callB call_isi (by rfl) T.z_isinstance (by decide +kernel) (pa_cons (pv 0) (pa_cons (pe_bltn (v := .ty "bool") rfl T.z_bool (by decide +kernel) rfl) pa_nil)))))))), ?_⟩
    cases o with
    | some i =>
      cases hx
      exact ⟨_, rfl, _, _, _, _, true, rfl, .ty _, .base (.int i), kit_ty (by decide +kernel), _, rfl, _, rfl, _, _, _, _, false, rfl, .ty _, .base (.int i), kit_ty (by decide +kernel), _, rfl, k⟩
    | none =>
      obtain ⟨t, b1, b2, ht, h1, h2, hb⟩ := hx
      refine ⟨_, rfl, _, _, _, _, b1, rfl, .ty _, ht, h1, _, rfl, ?_⟩
      cases b1 with
      | false => exact k
      | true =>
        refine ⟨_, rfl, _, _, _, _, b2, rfl, .ty _, ht, h2, _, rfl, ?_⟩
        have e : (!b2) = false := hb
        rw [e]
        exact k
def sp_is_at_least (K : PySem.W.Frag) : Sp := fun vs H Q _ => ∃ x o low, vs = [x, .int low] ∧ IsI K H x o ∧ Q (.bl (atLeast o low)) H
theorem ok_is_at_least (T : TX K mg) : FnOk P w K mg base CX0 2 T.f_is_at_least T.fd_is_at_least ["value", "low"] (sp_is_at_least K) := by
  refine T.F_is_at_least.ok sc_is_at_least (fun vs H Q E h => ?_) (fun cdv A outer s H vs Q E hr h => ?_)
  · obtain ⟨x, o, low, rfl, _⟩ := h
    rfl
  · obtain ⟨x, o, low, rfl, hx, k⟩ := h
    refine ⟨_, (pss_one (ps_ret (pe_and (pe_call (ok_is_integer T) hr rfl T.m_is_integer T.F_is_integer.kp T.b_is_integer .nil pass0 (pa_cons (pv 0) pa_nil)) (pe_one (pe_cmpR op_ge (pv 0) (pv 1) (nomark _)))))), ?_⟩
    refine ⟨_, rfl, x, o, rfl, hx, _, rfl, ?_⟩
    cases o with
    | none => exact k
    | some i =>
      cases hx
      exact ⟨_, rfl, _, rfl, _, _, rfl, rfl, k⟩
def sp_is_between (K : PySem.W.Frag) : Sp := fun vs H Q _ => ∃ x o low high, vs = [x, .int low, .int high] ∧ IsI K H x o ∧ Q (.bl (between o low high)) H
theorem ok_is_between (T : TX K mg) : FnOk P w K mg base CX0 2 T.f_is_between T.fd_is_between ["value", "low", "high"] (sp_is_between K) := by
  refine T.F_is_between.ok sc_is_between (fun vs H Q E h => ?_) (fun cdv A outer s H vs Q E hr h => ?_)
  · obtain ⟨x, o, low, high, rfl, _⟩ := h
    rfl
  · obtain ⟨x, o, low, high, rfl, hx, k⟩ := h
    refine ⟨_, (pss_one (ps_ret (pe_and (pe_call (ok_is_integer T) hr rfl T.m_is_integer T.F_is_integer.kp T.b_is_integer .nil pass0 (pa_cons (pv 0) pa_nil)) (pe_one (pe_chain op_le op_le (pv 1) (pv 0) (pv 2)))))), ?_⟩
    refine ⟨_, rfl, x, o, rfl, hx, _, rfl, ?_⟩
    cases o with
    | none => exact k
    | some i =>
      cases hx
      refine ⟨_, rfl, _, rfl, _, _, rfl, rfl, _, rfl, ?_⟩
      refine ite2 (fun c => ?_) (fun c => ?_)
      · have c1 : low ≤ i := of_decide_eq_true c
        refine ⟨_, rfl, _, _, rfl, rfl, ?_⟩
        have e : between (some i) low high = decide (i ≤ high) := by show (decide (low ≤ i) && decide (i ≤ high)) = _; rw [c]; rfl
        rw [e] at k
        exact k
      · have e : between (some i) low high = false := by show (decide (low ≤ i) && decide (i ≤ high)) = _; rw [Bool.eq_false_iff.mpr c]; rfl
        rw [e] at k
        exact k
end

/-- a table of these sizes stands at a -/
def TabAt (C : Addr) (H : Hp) (a : Addr) (ns : List Int) : Prop := ∃ dx t, H a = some (.ins C dx [("rings", .ref t)]) ∧ H t = some (.tup (ns.map V.int))
theorem TabAt.mono {C : Addr} {H H2 : Hp} {a : Addr} {ns : List Int} (e : Ex H H2) (h : TabAt C H a ns) : TabAt C H2 a ns := by
  obtain ⟨dx, t, h1, h2⟩ := h
  exact ⟨dx, t, e _ _ h1, e _ _ h2⟩
/-- a tracked list (false) or tuple (true) -/
def SqH (H : Hp) (p : Bool × Addr) (xs : List V) : Prop := if p.1 = true then H p.2 = some (.tup xs) else H p.2 = some (.lst xs)
theorem SqH.sq {K : PySem.W.Frag} {H : Hp} {p : Bool × Addr} {xs : List V} (h : SqH H p xs) : CZ.SqK K H p xs := by
  obtain ⟨b, a⟩ := p
  cases b
  · exact SqL.of (show H a = some (.lst xs) from h)
  · exact SqT.of (show H a = some (.tup xs) from h)
theorem SqH.mono {H H2 : Hp} {p : Bool × Addr} {xs : List V} (e : Ex H H2) (h : SqH H p xs) : SqH H2 p xs := by
  obtain ⟨b, a⟩ := p
  cases b
  · exact e _ _ (show H a = some (.lst xs) from h)
  · exact e _ _ (show H a = some (.tup xs) from h)
theorem SqH.ty {K : PySem.W.Frag} {H : Hp} {p : Bool × Addr} {xs : List V} (h : SqH H p xs) : TyX K H (.ref p.2) (.type (if p.1 = true then "tuple" else "list")) := by
  obtain ⟨b, a⟩ := p
  cases b
  · exact .base (.lst (show H a = some (.lst xs) from h))
  · exact .base (.tup (show H a = some (.tup xs) from h))
/-- sizes of a table -/
structure SzOk (ns : List Int) : Prop where
  pos : ns ≠ []
  le : ns.length ≤ 4
  one : ∀ n ∈ ns, 1 ≤ n
theorem len_line {α : Type} {l : List α} (h : l.length ≤ 4) : l.length ≤ sizeLine := Nat.le_trans h (by decide)
theorem take_lt {α : Type} {l : List α} (h : l.length ≤ 1000) (i : Nat) : (l.take i).length < sizeLine := by
  rw [List.length_take]
  exact Nat.lt_of_le_of_lt (Nat.le_trans (Nat.min_le_right _ _) h) (by decide)
theorem take_more {α : Type} {l : List α} {i : Nat} {x : α} (h : l[i]? = some x) : l.take (i + 1) = l.take i ++ [x] := by
  rw [List.take_add_one, h]
  rfl
theorem kit_seq {K : PySem.W.Frag} (b : Bool) : PySem.W.kitAny K (.type (if b = true then "tuple" else "list")) [.type "list", .type "tuple"] = some true := by
  cases b
  · exact kitAny_cons (b := true) (kit_ty (by decide +kernel)) (fun h => nomatch h) (fun _ => rfl)
  · exact kitAny_cons (b := false) (kit_ty (by decide +kernel)) (fun _ => kitAny_cons (b := true) (kit_ty (by decide +kernel)) (fun h => nomatch h) (fun _ => rfl)) (fun h => nomatch h)
theorem sq_or {K : PySem.W.Frag} {H : Hp} {b : Bool} {a : Addr} {xs : List V} (h : SqH H (b, a) xs) : SqL K H a xs ∨ SqT K H a xs := by
  cases b
  · exact .inl (SqL.of (show H a = some (.lst xs) from h))
  · exact .inr (SqT.of (show H a = some (.tup xs) from h))
section
variable {P : Program} {w : World} {K : PySem.W.Frag} {mg : Str → Option Value} {base : Heap}
end

theorem TyX.mono {K : PySem.W.Frag} {H H2 : Hp} {x : V} {t : Value} (e : Ex H H2) (h : TyX K H x t) : TyX K H2 x t := by
  cases h with
  | base h =>
    cases h with
    | non => exact .base .non
    | bl x => exact .base (.bl x)
    | int x => exact .base (.int x)
    | str x => exact .base (.str x)
    | flt x => exact .base (.flt x)
    | lst h => exact .base (.lst (e _ _ h))
    | frz h => exact .base (.frz (e _ _ h))
    | tup h => exact .base (.tup (e _ _ h))
    | dK h => exact .base (.dK (e _ _ h))
    | dT h => exact .base (.dT (e _ _ h))
    | ins h a b c d f => exact .base (.ins (e _ _ h) a b c d f)
  | byt b => exact .byt b
  | set h => exact .set (e _ _ h)
  | kList a b => exact .kList a b
  | kTuple a b => exact .kTuple a b
  | kDict a b => exact .kDict a b
  | fTuple h => exact .fTuple (e _ _ h)
  | fDict h => exact .fDict (e _ _ h)
theorem IsI.mono {K : PySem.W.Frag} {H H2 : Hp} {x : V} {o : Option Int} (e : Ex H H2) (h : IsI K H x o) : IsI K H2 x o := by
  cases o with
  | some i => exact h
  | none =>
    obtain ⟨t, b1, b2, ht, r⟩ := h
    exact ⟨t, b1, b2, TyX.mono e ht, r⟩
theorem paired_get {α β : Type} {R : α → β → Prop} : ∀ {l : List α} {m : List β} {i : Nat} {x : α}, Paired R l m → l[i]? = some x → ∃ y, m[i]? = some y ∧ R x y
  | _, _, _, _, .nil, h => by simp at h
  | _, _, 0, _, .cons r _, h => by simp at h; subst h; exact ⟨_, rfl, r⟩
  | _, _, i + 1, x, .cons _ t, h => by
    obtain ⟨y, h1, h2⟩ := paired_get (i := i) (x := x) t (by simpa using h)
    exact ⟨y, by simpa using h1, h2⟩
/-- what an argument is as a tuple: its items, as ints or not -/
def TupA (K : PySem.W.Frag) (H : Hp) (x : V) : Option (List (Option Int)) → Prop
  | some os => ∃ a xs, x = .ref a ∧ H a = some (.tup xs) ∧ xs.length ≤ 1000 ∧ Paired (IsI K H) xs os
  | none => ∃ t, TyX K H x t ∧ PySem.W.kitOne K t (.type "tuple") = some false
theorem paired_ints {K : PySem.W.Frag} {H : Hp} : ∀ ps : List Int, Paired (IsI K H) (ps.map V.int) (ps.map some)
  | [] => .nil
  | p :: ps => .cons rfl (paired_ints ps)
theorem TupA.ints {K : PySem.W.Frag} {H : Hp} {a : Addr} {ps : List Int} (h : H a = some (.tup (ps.map V.int))) (hl : ps.length ≤ 1000) : TupA K H (.ref a) (some (ps.map some)) :=
  ⟨a, _, rfl, h, by rw [List.length_map]; exact hl, paired_ints ps⟩
def isSeatO (ns : List Int) : Option (List (Option Int)) → Bool
  | some os => decide (os.length = ns.length) && (List.zipWith (fun o n => between o 0 (n - 1)) os ns).all id
  | none => false
def isCallO (ns : List Int) : Option (List (Option Int)) → Bool
  | some os => decide (os.length = ns.length) && (os.map Option.isSome).all id
  | none => false
/-- a seat: one place a ring -/
def SeatOk : List Int → List Int → Prop
  | n :: ns, p :: ps => (0 ≤ p ∧ p < n) ∧ SeatOk ns ps
  | [], [] => True
  | _, _ => False
theorem SeatOk.len : ∀ {ns ps : List Int}, SeatOk ns ps → ps.length = ns.length
  | [], [], _ => rfl
  | _ :: _, _ :: _, h => by
    show _ + 1 = _ + 1
    rw [SeatOk.len h.2]
theorem seat_is : ∀ {ns ps : List Int}, SeatOk ns ps → (List.zipWith (fun o n => between o 0 (n - 1)) (ps.map some) ns).all id = true
  | [], [], _ => rfl
  | n :: ns, p :: ps, h => by
    have ih := seat_is h.2
    show (between (some p) 0 (n - 1) && _) = true
    rw [Bool.and_eq_true]
    refine ⟨?_, ih⟩
    show (decide (0 ≤ p) && decide (p ≤ n - 1)) = true
    rw [decide_eq_true h.1.1, decide_eq_true (by have := h.1.2; omega)]
    rfl
theorem isSeat_ok {ns ps : List Int} (h : SeatOk ns ps) : isSeatO ns (some (ps.map some)) = true := by
  show (decide ((ps.map some).length = ns.length) && _) = true
  rw [Bool.and_eq_true]
  exact ⟨decide_eq_true (by rw [List.length_map]; exact h.len), seat_is h⟩
theorem isCall_ok {ns cs : List Int} (h : cs.length = ns.length) : isCallO ns (some (cs.map some)) = true := by
  show (decide ((cs.map some).length = ns.length) && _) = true
  rw [Bool.and_eq_true]
  refine ⟨decide_eq_true (by rw [List.length_map]; exact h), ?_⟩
  rw [List.map_map, List.all_map, List.all_eq_true]
  exact fun _ _ => rfl
/-- a step by a multiple of a call -/
def shiftL : List Int → List Int → List Int → Int → List Int
  | n :: ns, p :: ps, c :: cs, f => (p + f * c) % n :: shiftL ns ps cs f
  | _, _, _, _ => []
theorem shift_len : ∀ {ns ps cs : List Int} {f : Int}, ps.length = ns.length → cs.length = ns.length → (shiftL ns ps cs f).length = ns.length
  | [], _, _, _, _, _ => by simp [shiftL]
  | _ :: ns, p :: ps, c :: cs, f, h1, h2 => by
    have ih := @shift_len ns ps cs f (by simpa using h1) (by simpa using h2)
    show (shiftL ns ps cs f).length + 1 = _ + 1
    rw [ih]
theorem shift_get : ∀ {ns ps cs : List Int} {f : Int} {i : Nat} {n p c : Int}, ns[i]? = some n → ps[i]? = some p → cs[i]? = some c → (shiftL ns ps cs f)[i]? = some ((p + f * c) % n)
  | n :: ns, p :: ps, c :: cs, f, 0, _, _, _, h1, h2, h3 => by
    simp at h1 h2 h3
    subst h1 h2 h3
    rfl
  | n :: ns, p :: ps, c :: cs, f, i + 1, a, b, d, h1, h2, h3 => by
    have ih := @shift_get ns ps cs f i a b d (by simpa using h1) (by simpa using h2) (by simpa using h3)
    show (shiftL ns ps cs f)[i]? = _
    exact ih
  | [], _, _, _, i, _, _, _, h1, _, _ => by simp at h1
  | _ :: _, [], _, _, i, _, _, _, _, h2, _ => by simp at h2
  | _ :: _, _ :: _, [], _, i, _, _, _, _, _, h3 => by simp at h3
theorem mul_ok {i j : Int} (h : (-(2 ^ 64) < i ∧ i < 2 ^ 64) ∨ (-(2 ^ 64) < j ∧ j < 2 ^ 64)) : IntMulOk i j := CMul.ok h
theorem zip_get {α β γ : Type} {f : α → β → γ} {l : List α} {m : List β} {i : Nat} {x : α} {y : β} (h1 : l[i]? = some x) (h2 : m[i]? = some y) : (List.zipWith f l m)[i]? = some (f x y) := by
  rw [List.getElem?_zipWith, h1, h2]
section
variable {P : Program} {w : World} {K : PySem.W.Frag} {mg : Str → Option Value} {base : Heap}
end

/-- all but what is at s stays -/
def XB (s : Addr) (H H2 : Hp) : Prop := ∀ c o, c ≠ s → H c = some o → H2 c = some o
theorem XB.refl {s : Addr} {H : Hp} : XB s H H := fun _ _ _ h => h
theorem XB.trans {s : Addr} {H H1 H2 : Hp} (a : XB s H H1) (b : XB s H1 H2) : XB s H H2 := fun c o n h => b c o n (a c o n h)
theorem XB.upd {s : Addr} {H : Hp} {o : HO} : XB s H (upd H s o) := fun c u n h => by rw [upd_ne n]; exact h
theorem XB.of {s : Addr} {H H2 : Hp} (e : Ex H H2) : XB s H H2 := fun c o _ h => e c o h
theorem XB.back {s : Addr} {H H2 : Hp} (e : XB s H H2) {p : Addr} (hn : p ≠ s) (h : H2 p = none) : H p = none := by
  cases q : H p with
  | none => rfl
  | some o => rw [e p o hn q] at h; cases h
theorem mod_lo {i n : Int} (h : 0 < n) : 0 ≤ i % n := Int.emod_nonneg i (by omega)
theorem mod_hi {i n : Int} (h : 0 < n) : i % n < n := Int.emod_lt_of_pos i h

theorem at_ex {xs : List Int} {r : Int} (h0 : 0 ≤ r) (h1 : r < xs.length) : ∃ v, v ∈ xs ∧ atI (xs.map V.int) r = some (.int v) := by
  obtain ⟨j, rfl⟩ : ∃ j : Nat, r = (j : Int) := ⟨r.toNat, by omega⟩
  have hj : j < xs.length := by omega
  refine ⟨xs[j], List.getElem_mem hj, atI_nat ?_⟩
  rw [List.getElem?_map, List.getElem?_eq_getElem hj]
  rfl
theorem pow2_pos (k : Nat) : (1 : Int) ≤ 2 ^ k := by
  have h : 0 < 2 ^ k := Nat.pow_pos (by decide)
  have e : ((2 ^ k : Nat) : Int) = (2 : Int) ^ k := by simp
  omega
theorem pow2_le {j k : Nat} (h : j ≤ k) : (2 : Int) ^ j ≤ 2 ^ k := by
  have h1 : 2 ^ j ≤ 2 ^ k := Nat.pow_le_pow_right (by decide) h
  have e1 : ((2 ^ j : Nat) : Int) = (2 : Int) ^ j := by simp
  have e2 : ((2 ^ k : Nat) : Int) = (2 : Int) ^ k := by simp
  omega
theorem shl_one {r : Int} (h0 : 0 ≤ r) (h1 : r ≤ 1000) : CShl 1 r := by
  obtain ⟨j, rfl⟩ : ∃ j : Nat, r = (j : Int) := ⟨r.toNat, by omega⟩
  exact shl_ok (n := 1) (by decide) (by omega)

/-! ### data -/
mutual
theorem eqv_refl : ∀ d : PyData, d.canLay0 = true → PyData.eqv d d = true
  | .none, _ => by simp only [PyData.eqv]
  | .bool b, _ => by simp only [PyData.eqv, beq_self_eq_true]
  | .int i, _ => by simp only [PyData.eqv, beq_self_eq_true]
  | .str x, _ => by simp only [PyData.eqv, beq_self_eq_true]
  | .list xs, h => by
    simp only [PyData.canLay0] at h
    simp only [PyData.eqv]
    exact eqvAll_refl xs h
  | .tuple xs, h => by
    simp only [PyData.canLay0] at h
    simp only [PyData.eqv]
    exact eqvAll_refl xs h
  | .dict _, h => by simp [PyData.canLay0] at h
theorem eqvAll_refl : ∀ ds : List PyData, PyData.canLayAll0 ds = true → PyData.eqvAll ds ds = true
  | [], _ => by simp only [PyData.eqvAll]
  | d :: ds, h => by
    simp only [PyData.canLayAll0, Bool.and_eq_true] at h
    simp only [PyData.eqvAll, Bool.and_eq_true]
    exact ⟨eqv_refl d h.1, eqvAll_refl ds h.2⟩
end
/-- data of a depth below n, in a form that may be laid -/
def Sh (n : Nat) (d : PyData) : Prop := d.canLay0 = true ∧ d.depth ≤ n
theorem Sh.ok {d : PyData} (h : Sh 60 d) : SeqAt.shaped d = true := by
  unfold SeqAt.shaped
  rw [h.1, decide_eq_true (Nat.le_trans h.2 (by decide))]
  rfl
theorem sh_int {n : Nat} (i : Int) : Sh n (.int i) := ⟨by simp only [PyData.canLay0], by simp only [PyData.depth]; omega⟩
theorem sh_bool {n : Nat} (i : Bool) : Sh n (.bool i) := ⟨by simp only [PyData.canLay0], by simp only [PyData.depth]; omega⟩
theorem sh_none {n : Nat} : Sh n .none := ⟨by simp only [PyData.canLay0], by simp only [PyData.depth]; omega⟩
theorem sh_all {n : Nat} : ∀ {ds : List PyData}, (∀ d ∈ ds, Sh n d) → PyData.canLayAll0 ds = true ∧ PyData.depthAll ds ≤ n
  | [], _ => ⟨by simp only [PyData.canLayAll0], by simp only [PyData.depthAll]; omega⟩
  | d :: ds, h => by
    obtain ⟨h1, h2⟩ := h d List.mem_cons_self
    obtain ⟨g1, g2⟩ := sh_all fun x hx => h x (List.mem_cons_of_mem _ hx)
    refine ⟨by simp only [PyData.canLayAll0, h1, g1, Bool.and_self], ?_⟩
    simp only [PyData.depthAll]
    omega
theorem sh_tuple {n : Nat} {ds : List PyData} (h : ∀ d ∈ ds, Sh n d) : Sh (n + 1) (.tuple ds) := by
  obtain ⟨h1, h2⟩ := sh_all h
  exact ⟨by simp only [PyData.canLay0, h1], by simp only [PyData.depth]; omega⟩
theorem sh_list {n : Nat} {ds : List PyData} (h : ∀ d ∈ ds, Sh n d) : Sh (n + 1) (.list ds) := by
  obtain ⟨h1, h2⟩ := sh_all h
  exact ⟨by simp only [PyData.canLay0, h1], by simp only [PyData.depth]; omega⟩
theorem Sh.up {n m : Nat} {d : PyData} (h : Sh n d) (e : n ≤ m) : Sh m d := ⟨h.1, Nat.le_trans h.2 e⟩
/-- a tuple of ints -/
abbrev iT (ns : List Int) : PyData := .tuple (ns.map PyData.int)
theorem sh_ints {n : Nat} (ns : List Int) : Sh (n + 1) (iT ns) := sh_tuple fun d hd => by
  obtain ⟨i, _, rfl⟩ := List.mem_map.mp hd
  exact sh_int i
theorem dpall_ints {K : PySem.W.Frag} {H : Hp} : ∀ ns : List Int, DpAll K H (ns.map V.int) (ns.map PyData.int)
  | [] => .nil
  | n :: ns => .cons (.int n) (dpall_ints ns)
theorem dp_ints {K : PySem.W.Frag} {H : Hp} {a : Addr} {ns : List Int} (h : H a = some (.tup (ns.map V.int))) : Dp K H (.ref a) (iT ns) := .tup (SqT.of h) (dpall_ints ns)
theorem eqvAll_ints : ∀ ns ms : List Int, PyData.eqvAll (ns.map PyData.int) (ms.map PyData.int) = decide (ns = ms)
  | [], [] => by simp [PyData.eqvAll]
  | [], _ :: _ => by simp [PyData.eqvAll]
  | _ :: _, [] => by simp [PyData.eqvAll]
  | n :: ns, m :: ms => by
    have ih := eqvAll_ints ns ms
    simp only [List.map_cons, PyData.eqvAll, PyData.eqv, ih]
    by_cases h : n = m
    · subst h
      simp
    · have : (n == m) = false := by simpa using h
      rw [this]
      simp [h]
theorem eqv_ints (ns ms : List Int) : PyData.eqv (iT ns) (iT ms) = decide (ns = ms) := by
  simp only [PyData.eqv]
  exact eqvAll_ints ns ms
theorem sh_pair {n : Nat} {a b : PyData} (ha : Sh n a) (hb : Sh n b) : Sh (n + 1) (.tuple [a, b]) := sh_tuple fun d hd => by
  rcases List.mem_cons.mp hd with e | e
  · rw [e]; exact ha
  · rw [List.mem_singleton.mp e]; exact hb
theorem eqv_same {d : PyData} (h : Sh 60 d) : (!PyData.eqv d d) = false := by rw [eqv_refl d h.1]; rfl

/-- the greatest common divisor -/
abbrev gcdI (a b : Int) : Int := ((Int.gcd a b : Nat) : Int)
theorem gcd_pos2 {p n : Int} (h : 1 ≤ n) : 0 < Int.gcd p n := Int.gcd_pos_of_ne_zero_right _ (by omega)
theorem gcd_turn {a b : Int} (hb : b ≠ 0) : Int.gcd b (a % b) = Int.gcd a b := by
  rw [Int.gcd_comm b, Int.emod_def, Int.sub_eq_add_neg, ← Int.mul_neg, Int.gcd_add_mul_left_left]
theorem abs45 {n : Int} (h1 : 0 ≤ n) (h2 : n ≤ 10 ^ 45) : n.natAbs < 2 ^ 150 := by
  have h5 : (10 : Int) ^ 45 < 2 ^ 150 := by decide
  have h8 : ((2 ^ 150 : Nat) : Int) = (2 : Int) ^ 150 := by simp
  omega
section
variable {P : Program} {w : World} {K : PySem.W.Frag} {mg : Str → Option Value} {base : Heap}
end

/-! ### zip's rows, nested comprehensions, lists of tuples of ints -/
theorem yrow2 {xs ys : List V} {i : Nat} {H H2 : Hp} {x : V} (h : CZ.YRow [xs, ys] i H x H2) : ∃ (Ta : Addr) (a b : V), x = .ref Ta ∧ H Ta = none ∧ H2 = upd H Ta (.tup [a, b]) ∧ xs[i]? = some a ∧ ys[i]? = some b := by
  obtain ⟨Ta, vs, rfl, hT, rfl, r⟩ := h
  cases r with
  | cons r1 r =>
    cases r with
    | cons r2 r =>
      cases r
      exact ⟨Ta, _, _, rfl, hT, rfl, r1, r2⟩
theorem yrow3 {xs ys zs : List V} {i : Nat} {H H2 : Hp} {x : V} (h : CZ.YRow [xs, ys, zs] i H x H2) : ∃ (Ta : Addr) (a b c : V), x = .ref Ta ∧ H Ta = none ∧ H2 = upd H Ta (.tup [a, b, c]) ∧ xs[i]? = some a ∧ ys[i]? = some b ∧ zs[i]? = some c := by
  obtain ⟨Ta, vs, rfl, hT, rfl, r⟩ := h
  cases r with
  | cons r1 r =>
    cases r with
    | cons r2 r =>
      cases r with
      | cons r3 r =>
        cases r
        exact ⟨Ta, _, _, _, rfl, hT, rfl, r1, r2, r3⟩
theorem yints2 {xs ys : List Int} {i : Nat} {H H2 : Hp} {x : V} (h : CZ.YRow [xs.map V.int, ys.map V.int] i H x H2) : ∃ (Ta : Addr) (a b : Int), x = .ref Ta ∧ H Ta = none ∧ H2 = upd H Ta (.tup [.int a, .int b]) ∧ xs[i]? = some a ∧ ys[i]? = some b := by
  obtain ⟨Ta, a, b, rfl, hT, rfl, r1, r2⟩ := yrow2 h
  obtain ⟨p, hp, rfl⟩ := map_get r1
  obtain ⟨q, hq, rfl⟩ := map_get r2
  exact ⟨Ta, p, q, rfl, hT, rfl, hp, hq⟩
theorem yints3 {xs ys zs : List Int} {i : Nat} {H H2 : Hp} {x : V} (h : CZ.YRow [xs.map V.int, ys.map V.int, zs.map V.int] i H x H2) : ∃ (Ta : Addr) (a b c : Int), x = .ref Ta ∧ H Ta = none ∧ H2 = upd H Ta (.tup [.int a, .int b, .int c]) ∧ xs[i]? = some a ∧ ys[i]? = some b ∧ zs[i]? = some c := by
  obtain ⟨Ta, a, b, c, rfl, hT, rfl, r1, r2, r3⟩ := yrow3 h
  obtain ⟨p, hp, rfl⟩ := map_get r1
  obtain ⟨q, hq, rfl⟩ := map_get r2
  obtain ⟨r, hr, rfl⟩ := map_get r3
  exact ⟨Ta, p, q, r, rfl, hT, rfl, hp, hq, hr⟩
theorem all2 {K : PySem.W.Frag} {H : Hp} {p q : Bool × Addr} {xs ys : List V} (hp : CZ.SqK K H p xs) (hq : CZ.SqK K H q ys) : ∀ r ∈ [p, q], ∃ zs, CZ.SqK K H r zs := fun r hr => by
  rcases List.mem_cons.mp hr with e | hr
  · rw [e]; exact ⟨_, hp⟩
  · rw [List.mem_singleton.mp hr]; exact ⟨_, hq⟩
theorem all3 {K : PySem.W.Frag} {H : Hp} {p q t : Bool × Addr} {xs ys us : List V} (hp : CZ.SqK K H p xs) (hq : CZ.SqK K H q ys) (ht : CZ.SqK K H t us) : ∀ r ∈ [p, q, t], ∃ zs, CZ.SqK K H r zs := fun r hr => by
  rcases List.mem_cons.mp hr with e | hr
  · rw [e]; exact ⟨_, hp⟩
  · exact all2 hq ht r hr
theorem lens2 {xs ys : List V} {n : Nat} (h1 : xs.length = n) (h2 : ys.length = n) : ∀ zs ∈ [xs, ys], zs.length = n := fun zs hz => by
  rcases List.mem_cons.mp hz with e | hz
  · rw [e]; exact h1
  · rw [List.mem_singleton.mp hz]; exact h2
theorem lens3 {xs ys us : List V} {n : Nat} (h1 : xs.length = n) (h2 : ys.length = n) (h3 : us.length = n) : ∀ zs ∈ [xs, ys, us], zs.length = n := fun zs hz => by
  rcases List.mem_cons.mp hz with e | hz
  · rw [e]; exact h1
  · exact lens2 h2 h3 zs hz
theorem sqT {K : PySem.W.Frag} {H : Hp} {a : Addr} {xs : List V} (h : H a = some (.tup xs)) : CZ.SqK K H (true, a) xs := SqT.of h
theorem sqL {K : PySem.W.Frag} {H : Hp} {a : Addr} {xs : List V} (h : H a = some (.lst xs)) : CZ.SqK K H (false, a) xs := SqL.of h
section
variable {J : It} {n : Nat} {G : Hp → Prop} {Y : Nat → Hp → V → Hp → Prop}
/-- a comprehension of two loops: the outer -/
theorem lc2_it (w : Walk J n G Y) {g g1 : TG} {tt tt1 : TT} {te : TE} {wi1 : TI} {vs vs1 : List Nat} {σ : L2.St} {H1 : Hp} {D : Addr} {Qd : Hp → Prop} (Pv : Nat → Hp → Prop) (h0 : Pv 0 (upd H1 D (.lst []))) (hG : ∀ i H, i ≤ n → Pv i H → G H)
    (hs : ∀ i x H H2, i < n → Pv i H → Y i H x H2 → g x (wipe σ vs) H2 fun σ2 H2 => wipe σ2 vs = wipe σ vs ∧ tt σ2 H2 fun b H3 =>
      if b = true then wi1 σ2 H3 fun J1 H4 => ∃ W1 : Nat → Nat → Hp → Prop, (∃ m, W1 0 m H4) ∧ ∀ j k H, W1 j k H →
        (J1.stop j H ∧ Pv (i + 1) H) ∨ (J1.go j H ∧ ∃ Nx1 : Hp → Prop, (∀ H2, Nx1 H2 → ∃ k2, k2 < k ∧ W1 (j + 1) k2 H2) ∧ ∀ x H2, J1.yld j H x H2 → g1 x (wipe σ2 vs1) H2 fun σ3 H5 => wipe σ3 vs1 = wipe σ2 vs1 ∧ tt1 σ3 H5 fun b H6 =>
          if b = true then te σ3 H6 fun y H7 => ∃ acc, H7 D = some (.lst acc) ∧ acc.length < sizeLine ∧ Nx1 (upd H7 D (.lst (acc ++ [y]))) else Nx1 H6)
      else Pv (i + 1) H3) (hd : ∀ H, Pv n H → Qd H) :
    ∃ W : Nat → Nat → Hp → Prop, (∃ m, W 0 m (upd H1 D (.lst []))) ∧ ∀ i m H, W i m H →
      (J.stop i H ∧ Qd H) ∨ (J.go i H ∧ ∃ Nx : Hp → Prop, (∀ H2, Nx H2 → ∃ m2, m2 < m ∧ W (i + 1) m2 H2) ∧ ∀ x H2, J.yld i H x H2 → g x (wipe σ vs) H2 fun σ2 H2 => wipe σ2 vs = wipe σ vs ∧ tt σ2 H2 fun b H3 =>
        if b = true then wi1 σ2 H3 fun J1 H4 => ∃ W1 : Nat → Nat → Hp → Prop, (∃ m, W1 0 m H4) ∧ ∀ j k H, W1 j k H →
          (J1.stop j H ∧ Nx H) ∨ (J1.go j H ∧ ∃ Nx1 : Hp → Prop, (∀ H2, Nx1 H2 → ∃ k2, k2 < k ∧ W1 (j + 1) k2 H2) ∧ ∀ x H2, J1.yld j H x H2 → g1 x (wipe σ2 vs1) H2 fun σ3 H5 => wipe σ3 vs1 = wipe σ2 vs1 ∧ tt1 σ3 H5 fun b H6 =>
            if b = true then te σ3 H6 fun y H7 => ∃ acc, H7 D = some (.lst acc) ∧ acc.length < sizeLine ∧ Nx1 (upd H7 D (.lst (acc ++ [y]))) else Nx1 H6)
        else Nx H3) := by
  refine ⟨fun i m H => m = n - i ∧ i ≤ n ∧ Pv i H, ⟨n, by simp, Nat.zero_le _, h0⟩, ?_⟩
  rintro i m H ⟨rfl, hi, p⟩
  have q := hG i H hi p
  by_cases hlt : i < n
  · refine .inr ⟨w.goes i H hlt q, Pv (i + 1), fun H2 p2 => ⟨n - (i + 1), by omega, rfl, hlt, p2⟩, fun x H2 y => hs i x H H2 hlt p (w.yields i H x H2 hlt q y)⟩
  · have e : i = n := by omega
    subst e
    exact .inl ⟨w.stops H q, hd H p⟩
/-- .. the inner -/
theorem in_it (w : Walk J n G Y) {g1 : TG} {tt1 : TT} {te : TE} {vs1 : List Nat} {σ2 : L2.St} {H4 : Hp} {D : Addr} {Nx : Hp → Prop} (Pw : Nat → Hp → Prop) (h0 : Pw 0 H4) (hG : ∀ i H, i ≤ n → Pw i H → G H)
    (hs : ∀ j x H H2, j < n → Pw j H → Y j H x H2 → g1 x (wipe σ2 vs1) H2 fun σ3 H5 => wipe σ3 vs1 = wipe σ2 vs1 ∧ tt1 σ3 H5 fun b H6 =>
      if b = true then te σ3 H6 fun y H7 => ∃ acc, H7 D = some (.lst acc) ∧ acc.length < sizeLine ∧ Pw (j + 1) (upd H7 D (.lst (acc ++ [y]))) else Pw (j + 1) H6) (hd : ∀ H, Pw n H → Nx H) :
    ∃ W1 : Nat → Nat → Hp → Prop, (∃ m, W1 0 m H4) ∧ ∀ j k H, W1 j k H →
      (J.stop j H ∧ Nx H) ∨ (J.go j H ∧ ∃ Nx1 : Hp → Prop, (∀ H2, Nx1 H2 → ∃ k2, k2 < k ∧ W1 (j + 1) k2 H2) ∧ ∀ x H2, J.yld j H x H2 → g1 x (wipe σ2 vs1) H2 fun σ3 H5 => wipe σ3 vs1 = wipe σ2 vs1 ∧ tt1 σ3 H5 fun b H6 =>
        if b = true then te σ3 H6 fun y H7 => ∃ acc, H7 D = some (.lst acc) ∧ acc.length < sizeLine ∧ Nx1 (upd H7 D (.lst (acc ++ [y]))) else Nx1 H6) := by
  refine ⟨fun i m H => m = n - i ∧ i ≤ n ∧ Pw i H, ⟨n, by simp, Nat.zero_le _, h0⟩, ?_⟩
  rintro i m H ⟨rfl, hi, p⟩
  have q := hG i H hi p
  by_cases hlt : i < n
  · refine .inr ⟨w.goes i H hlt q, Pw (i + 1), fun H2 p2 => ⟨n - (i + 1), by omega, rfl, hlt, p2⟩, fun x H2 y => hs i x H H2 hlt p (w.yields i H x H2 hlt q y)⟩
  · have e : i = n := by omega
    subst e
    exact .inl ⟨w.stops H q, hd H p⟩
end
/-- refs of tuples of ints -/
def RowsR (H : Hp) (xs : List V) (hss : List (List Int)) : Prop := Paired (fun x hs => ∃ r, x = V.ref r ∧ H r = some (.tup (hs.map V.int))) xs hss
theorem RowsR.mono {H H2 : Hp} (e : Ex H H2) : ∀ {xs : List V} {hss : List (List Int)}, RowsR H xs hss → RowsR H2 xs hss
  | _, _, .nil => .nil
  | _, _, .cons ⟨r, h1, h2⟩ t => .cons ⟨r, h1, e _ _ h2⟩ (RowsR.mono e t)
theorem RowsR.snoc {H : Hp} {r : Addr} {hs : List Int} (h : H r = some (.tup (hs.map V.int))) : ∀ {xs : List V} {hss : List (List Int)}, RowsR H xs hss → RowsR H (xs ++ [.ref r]) (hss ++ [hs])
  | _, _, .nil => .cons ⟨r, rfl, h⟩ .nil
  | _, _, .cons q t => .cons q (RowsR.snoc h t)
theorem RowsR.app {H : Hp} {ys : List V} {kss : List (List Int)} (h : RowsR H ys kss) : ∀ {xs : List V} {hss : List (List Int)}, RowsR H xs hss → RowsR H (xs ++ ys) (hss ++ kss)
  | _, _, .nil => h
  | _, _, .cons q t => .cons q (RowsR.app h t)
theorem RowsR.len {H : Hp} : ∀ {xs : List V} {hss : List (List Int)}, RowsR H xs hss → xs.length = hss.length
  | _, _, .nil => rfl
  | _, _, .cons _ t => by rw [List.length_cons, List.length_cons, RowsR.len t]
theorem RowsR.get {H : Hp} : ∀ {xs : List V} {hss : List (List Int)} {i : Nat} {x : V}, RowsR H xs hss → xs[i]? = some x → ∃ hs r, hss[i]? = some hs ∧ x = V.ref r ∧ H r = some (.tup (hs.map V.int))
  | _, _, _, _, .nil, h => by simp at h
  | _, _, 0, _, .cons ⟨r, e, q⟩ _, h => by
    simp only [List.length_cons, Nat.zero_lt_succ, List.getElem?_eq_getElem, List.getElem_cons_zero, Option.some.injEq] at h
    subst h
    exact ⟨_, r, rfl, e, q⟩
  | _, _, i + 1, _, .cons _ t, h => by
    rw [List.getElem?_cons_succ] at h ⊢
    exact RowsR.get t h
theorem RowsR.dp {K : PySem.W.Frag} {H : Hp} : ∀ {xs : List V} {hss : List (List Int)}, RowsR H xs hss → DpAll K H xs (hss.map iT)
  | _, _, .nil => .nil
  | _, _, .cons ⟨r, e, q⟩ t => by
    subst e
    exact .cons (dp_ints q) (RowsR.dp t)
/-- a list of tuples of ints -/
def RowsAt (H : Hp) (D : Addr) (hss : List (List Int)) : Prop := ∃ xs, H D = some (.lst xs) ∧ RowsR H xs hss
theorem RowsAt.mono {H H2 : Hp} {D : Addr} {hss : List (List Int)} (e : Ex H H2) (h : RowsAt H D hss) : RowsAt H2 D hss := by
  obtain ⟨xs, h1, h2⟩ := h
  exact ⟨xs, e _ _ h1, h2.mono e⟩
theorem RowsAt.dp {K : PySem.W.Frag} {H : Hp} {D : Addr} {hss : List (List Int)} (h : RowsAt H D hss) : Dp K H (.ref D) (.list (hss.map iT)) := by
  obtain ⟨xs, h1, h2⟩ := h
  exact .lst (SqL.of h1) h2.dp
theorem sh_rows {n : Nat} (hss : List (List Int)) : Sh (n + 2) (.list (hss.map iT)) := sh_list fun d hd => by
  obtain ⟨hs, _, rfl⟩ := List.mem_map.mp hd
  exact sh_ints hs
theorem eqvAll_rows : ∀ ns ms : List (List Int), PyData.eqvAll (ns.map iT) (ms.map iT) = decide (ns = ms)
  | [], [] => by simp [PyData.eqvAll]
  | [], _ :: _ => by simp [PyData.eqvAll]
  | _ :: _, [] => by simp [PyData.eqvAll]
  | n :: ns, m :: ms => by
    have ih := eqvAll_rows ns ms
    simp only [List.map_cons, PyData.eqvAll, eqv_ints, ih]
    by_cases h : n = m
    · subst h
      simp
    · simp [h]
theorem eqv_rows (ns ms : List (List Int)) : PyData.eqv (.list (ns.map iT)) (.list (ms.map iT)) = decide (ns = ms) := by
  simp only [PyData.eqv]
  exact eqvAll_rows ns ms
theorem RowsR.upd {H : Hp} {D : Addr} {acc : List V} {o : HO} (hD : H D = some (.lst acc)) : ∀ {xs : List V} {hss : List (List Int)}, RowsR H xs hss → RowsR (upd H D o) xs hss
  | _, _, .nil => .nil
  | _, _, .cons ⟨r, h1, h2⟩ t => .cons ⟨r, h1, by rw [upd_ne (ne_of h2 hD (by intro z; cases z))]; exact h2⟩ (RowsR.upd hD t)
theorem rows_push {H : Hp} {D u : Addr} {hss : List (List Int)} {ks : List Int} (h : RowsAt H D hss) (hu : H u = some (.tup (ks.map V.int))) : ∃ acc, H D = some (.lst acc) ∧ acc.length = hss.length ∧ RowsAt (upd H D (.lst (acc ++ [.ref u]))) D (hss ++ [ks]) := by
  obtain ⟨xs, h1, h2⟩ := h
  refine ⟨xs, h1, h2.len, _, upd_same, ?_⟩
  exact RowsR.snoc (by rw [upd_ne (ne_of hu h1 (by intro z; cases z))]; exact hu) (h2.upd h1)
theorem ex_upd {H H2 : Hp} {D : Addr} {o : HO} (e : Ex H H2) (hD : H D = none) : Ex H (upd H2 D o) := fun c u z => by
  rw [upd_ne (ne_of_none z hD)]
  exact e c u z
theorem ext {H H1 H2 : Hp} (a : Ex H H1) (b : Ex H1 H2) : Ex H H2 := fun c o z => b c o (a c o z)

/-! ### tuple * int, from 1 on -/
theorem u65 {k : Nat} {A : Around} (r : Room k A) : A.units + 65 < cLine := by have := r.un; omega
theorem tuple_mul1 (l : Addr) (items : Array Value) (n : Nat) (dd : Option Addr) (sl : Array (Option Value)) (x : Int) (u : Tok) (c0 : (decide (x < -(2 ^ 63)) || decide (x ≥ 2 ^ 63)) = false) (c1 : (items.isEmpty || x == 1) = true) :
    Meets (Builtin.«tuple.__mul__» ⟨[.ref l, .int x u], []⟩) (fun _ R s => s.heap.get? l = some { cls := .type "tuple", dict := dd, data := .seq items n, slots := sl } ∧ R (.ok (.ret (Value.ref l))) s) :=
  .of_wp fun prog w A R s h => by
    obtain ⟨hp, g, d, tk, os⟩ := s
    obtain ⟨hl, h⟩ := h
    have f1 := AutoSeq1.idx_int
    wp_walk using wpAny_loadPart' hl
    repeat (first
      | (refine wpAny_ite_false (decide_eq_false (by rw [c0]; exact Bool.false_ne_true)) ?_; wp_walk using wpAny_loadPart' hl)
      | (refine wpAny_ite_true (decide_eq_true c1) ?_; wp_walk using wpAny_loadPart' hl))
    exact ⟨_, rfl, h⟩
def rRepA (K : PySem.W.Frag) : R2 := fun x y H Q => ∃ l k xs, x = .ref l ∧ y = .int k ∧ SqT K H l xs ∧ xs ≠ [] ∧ 1 ≤ k ∧ k ≤ 1000 ∧ xs.length ≤ 1000 ∧ (k = 1 → Q (.ref l) H) ∧ ∀ p, H p = none → Q (.ref p) (upd H p (.tup (List.replicate k.toNat xs).flatten))
theorem op_repA {X : Cx} : OpR X (binaryOp .Mult) (rRepA X.K) := by
  intro pins s σ H x y v u Q I rx ry h
  obtain ⟨l, k, xs, ex, ey, hT, hne, h1, h2, hz, q1, q⟩ := h
  by_cases hk : k = 1
  · subst ex ey hk
    cases rx
    obtain ⟨t, rfl⟩ := ry
    obtain ⟨its, r, ⟨⟨cls, dd, data, sl⟩, ho, hc, n, hd⟩, hs⟩ := I.tuple hT
    simp only at hc hd
    subst hc hd
    refine wpAny_binaryOp_repeat_ref (T := "tuple") (U := "int") (by decide) ⟨_, ho, rfl⟩ (fun s2 => typeIs_int s2 1 t) noFill_tuple_mul PySem.F.fills_int_mul PySem.F.slot_int_rmul repeat_tuple PySem.F.slot_int_index.lookup
      (call_meets PySem.F.slot_int_rmul (typeIs_int s 1 t) PySem.F.entry_int_rmul (PySem.F.args_int_rmul_2 _ _) (int_rmul_tuple 1 t l its.toArray n dd sl)
        ⟨ho, rfl, ⟨_, ho, rfl⟩, call_meets PySem.F.slot_tuple_mul ⟨_, ho, rfl⟩ PySem.F.entry_tuple_mul (PySem.F.args_tuple_mul_2 _ _) (tuple_mul1 l its.toArray n dd sl 1 t (by decide) (by simp)) ⟨ho, ?_⟩⟩)
    exact ⟨.ref l, H, I, rfl, q1 rfl⟩
  · exact op_repT pins s σ H x y v u Q I rx ry ⟨l, k, xs, ex, ey, hT, hne, by omega, h2, hz, q⟩
/-- (x,) * k -/
theorem rep_one (x : V) (k : Nat) : (List.replicate k [x]).flatten = List.replicate k x := by
  induction k with
  | zero => rfl
  | succ k ih => rw [List.replicate_succ, List.flatten_cons, ih, List.replicate_succ]; rfl
theorem rep_ints {K : PySem.W.Frag} {H : Hp} {Q : VK} {u : Addr} {x k : Int} (hu : H u = some (.tup [.int x])) (h1 : 1 ≤ k) (h2 : k ≤ 1000) (h : ∀ q H2, Ex H H2 → H2 q = some (.tup ((List.replicate k.toNat x).map V.int)) → Q (.ref q) H2) : rRepA K (.ref u) (.int k) H Q := by
  refine ⟨u, k, [.int x], rfl, rfl, SqT.of hu, (fun z => nomatch z), h1, h2, (by show 1 ≤ 1000; decide), fun e => ?_, fun p hp => ?_⟩
  · subst e
    exact h u H exr hu
  · refine h p _ (exn hp) ?_
    rw [upd_same, rep_one, List.map_replicate]
theorem ne_same {a b : List Int} (h : a = b) : (!PyData.eqv (iT a) (iT b)) = false := by rw [h]; exact eqv_same (sh_ints b)
/-- a comprehension over a tuple of ints, by a value each -/
theorem row_in {hss : List (List Int)} {ps : List Int} (h : ps ∈ hss) : ((hss.map iT).any fun z => PyData.eqv z (iT ps)) = true := by
  rw [List.any_eq_true]
  exact ⟨iT ps, List.mem_map.mpr ⟨ps, h, rfl⟩, by rw [eqv_ints]; simp⟩
/-- a list of ints -/
abbrev iL (ns : List Int) : PyData := .list (ns.map PyData.int)
theorem sh_ilist {n : Nat} (ns : List Int) : Sh (n + 1) (iL ns) := sh_list fun d hd => by
  obtain ⟨i, _, rfl⟩ := List.mem_map.mp hd
  exact sh_int i
theorem dp_ilist {K : PySem.W.Frag} {H : Hp} {a : Addr} {ns : List Int} (h : H a = some (.lst (ns.map V.int))) : Dp K H (.ref a) (iL ns) := .lst (SqL.of h) (dpall_ints ns)
theorem eqv_ilist (ns ms : List Int) : PyData.eqv (iL ns) (iL ms) = decide (ns = ms) := by
  simp only [PyData.eqv]
  exact eqvAll_ints ns ms
theorem dec_bl {a b : Bool} (h : a = b) : (!decide (V.bl a = V.bl b)) = false := by rw [h]; simp
theorem emod_eq_iff {a b n : Int} : a % n = b % n ↔ n ∣ a - b := by
  rw [Int.emod_eq_emod_iff_emod_sub_eq_zero, Int.dvd_iff_emod_eq_zero]
/-- behind an if that changes names alone -/
theorem ifs_cutS {c : TT} {t u : TS} {D : Ends} {σ : L2.St} {H : Hp} (R : L2.St → Prop) (hR : ∀ σ2, R σ2 → D.nx σ2 H) (h : ∀ N : L2.St → Hp → Prop, (∀ σ2, R σ2 → N σ2 H) → tIfS c t u { D with nx := N } σ H) : tIfS c t u D σ H :=
  h D.nx hR

/-- a comprehension that lengthens a row by each of ks -/
theorem lc_rows {J : It} {n : Nat} {G : Hp → Prop} {Y : Nat → Hp → V → Hp → Prop} (w : Walk J n G Y) {g : TG} {te : TE} {vs : List Nat} {σ : L2.St} {H1 : Hp} {D : Addr} {Qd : Hp → Prop} (row ks : List Int) (hn : ks.length = n) (hl : n ≤ 10000000) (hD : H1 D = none)
    (hG : ∀ H, Ex H1 H → G H)
    (hs : ∀ i x H H2 (R : VK), i < n → Ex H1 H → Y i H x H2 → (∀ k v H5, Ex H H5 → ks[i]? = some k → H5 v = some (.tup ((row ++ [k]).map V.int)) → R (.ref v) H5) → g x (wipe σ vs) H2 fun σ2 H3 => wipe σ2 vs = wipe σ vs ∧ te σ2 H3 R)
    (hg : ∀ x σ2 H2 (R R2 : L2.St → Hp → Prop), (∀ σ3 H3, R σ3 H3 → R2 σ3 H3) → g x σ2 H2 R → g x σ2 H2 R2)
    (hd : ∀ H, Ex H1 H → RowsAt H D (ks.map fun k => row ++ [k]) → Qd H) :
    ∃ W : Nat → Nat → Hp → Prop, (∃ m, W 0 m (upd H1 D (.lst []))) ∧ ∀ i m H, W i m H →
      (J.stop i H ∧ Qd H) ∨ (J.go i H ∧ ∃ Nx : Hp → Prop, (∀ H2, Nx H2 → ∃ m2, m2 < m ∧ W (i + 1) m2 H2) ∧ ∀ x H2, J.yld i H x H2 → g x (wipe σ vs) H2 fun σ2 H3 => wipe σ2 vs = wipe σ vs ∧ tYes σ2 H3 fun b H4 =>
        if b = true then te σ2 H4 fun y H5 => ∃ acc, H5 D = some (.lst acc) ∧ acc.length < sizeLine ∧ Nx (upd H5 D (.lst (acc ++ [y]))) else Nx H4) := by
  refine lc_it w (fun i H => Ex H1 H ∧ RowsAt H D ((ks.take i).map fun k => row ++ [k])) ⟨exn hD, _, upd_same, .nil⟩ (fun i H _ p => hG H p.1) (fun i x H H2 hi p y => ?_) (fun H p => hd H p.1 (by have := p.2; rwa [List.take_of_length_le (by rw [hn]; exact Nat.le_refl _)] at this))
  refine hg _ _ _ _ _ (fun σ3 H3 q => ⟨q.1, q.2⟩) (hs i x H H2 (fun y H5 => ∃ acc, H5 D = some (.lst acc) ∧ acc.length < sizeLine ∧ Ex H1 (upd H5 D (.lst (acc ++ [y]))) ∧ RowsAt (upd H5 D (.lst (acc ++ [y]))) D ((ks.take (i + 1)).map fun k => row ++ [k])) hi p.1 y fun k v H5 e hk hv => ?_)
  obtain ⟨acc, h1, h2, h3⟩ := rows_push (p.2.mono e) hv
  refine ⟨acc, h1, ?_, ex_upd (ext p.1 e) hD, ?_⟩
  · rw [h2, List.length_map, List.length_take]
    exact Nat.lt_of_le_of_lt (Nat.le_trans (Nat.min_le_right _ _) (by rw [hn]; exact hl)) (by decide)
  · rw [take_more hk, List.map_append]
    exact h3
/-- row + (k,) -/
theorem cat_row {K : PySem.W.Frag} {H : Hp} {Q : VK} {r u : Addr} {row : List Int} {k : Int} (hr : H r = some (.tup (row.map V.int))) (hu : H u = some (.tup [.int k])) (hl : row.length ≤ 1000) (h : ∀ v H5, Ex H H5 → H5 v = some (.tup ((row ++ [k]).map V.int)) → Q (.ref v) H5) : rCatA K (.ref r) (.ref u) H Q := by
  refine ⟨r, u, row.map V.int, [.int k], rfl, rfl, SqT.of hr, SqT.of hu, ?_, fun z => ?_, fun _ z => (nomatch z), fun _ _ v hv => ?_⟩
  · rw [List.length_map]
    exact Nat.le_trans (show _ + 1 ≤ 1001 by omega) (by decide)
  · have : row = [] := List.map_eq_nil_iff.mp z
    subst this
    exact h u H exr hu
  · refine h v _ (exn hv) ?_
    rw [upd_same, List.map_append]
    rfl
theorem rows_ext {H : Hp} {D E : Addr} {hss kss : List (List Int)} (h1 : RowsAt H D hss) (h2 : RowsAt H E kss) (ne : D ≠ E) : ∃ xs zs, H D = some (.lst xs) ∧ H E = some (.lst zs) ∧ xs.length = hss.length ∧ zs.length = kss.length ∧ RowsAt (upd H D (.lst (xs ++ zs))) D (hss ++ kss) := by
  obtain ⟨xs, a1, a2⟩ := h1
  obtain ⟨zs, b1, b2⟩ := h2
  exact ⟨xs, zs, a1, b1, a2.len, b2.len, _, upd_same, RowsR.app (b2.upd a1) (a2.upd a1)⟩

theorem eqT {i j : Int} (h : decide (V.int i = V.int j) = true) : i = j := V.int.inj (of_decide_eq_true h)
theorem eqF {i j : Int} (h : ¬decide (V.int i = V.int j) = true) : i ≠ j := fun z => h (decide_eq_true (by rw [z]))
/-- behind an if -/
theorem ifs_cutG {c : TT} {t u : TS} {D : Ends} {σ : L2.St} {H : Hp} (R : L2.St → Hp → Prop) (hR : ∀ σ2 H2, R σ2 H2 → D.nx σ2 H2) (h : ∀ N : L2.St → Hp → Prop, (∀ σ2 H2, R σ2 H2 → N σ2 H2) → tIfS c t u { D with nx := N } σ H) : tIfS c t u D σ H :=
  h D.nx hR
theorem exG {H H4 : Hp} {p : Addr} {o : HO} (h : upd H p o = H4) (n : H p = none) : Ex H H4 := h ▸ exn n
theorem atG {H H4 : Hp} {p : Addr} {o : HO} (h : upd H p o = H4) : H4 p = some o := h ▸ upd_same
theorem slen {n : Nat} (h : Nat.ble n 1000 = true) : n ≤ sizeLine := Nat.le_trans (Nat.le_of_ble_eq_true h) (by decide)
/-- a comprehension with a test: what passes, by f -/
theorem lc_filt {α : Type} {J : It} {n : Nat} {G : Hp → Prop} {Y : Nat → Hp → V → Hp → Prop} (w : Walk J n G Y) {g : TG} {tt : TT} {te : TE} {vs : List Nat} {σ : L2.St} {H1 : Hp} {D : Addr} {Qd : Hp → Prop} (xs : List α) (c : α → Bool) (f : α → V) (hn : xs.length = n) (hl : n ≤ 10000000) (hD : H1 D = none)
    (hG : ∀ H, Ex H1 H → G H)
    (hs : ∀ i x a H H2 (R : VK) (S : Hp → Prop), xs[i]? = some a → Ex H1 H → Y i H x H2 → (∀ y H5, Ex H H5 → c a = true → y = f a → R y H5) → (∀ H4, Ex H H4 → c a = false → S H4) → g x (wipe σ vs) H2 fun σ2 H3 => wipe σ2 vs = wipe σ vs ∧ tt σ2 H3 fun b H4 => if b = true then te σ2 H4 R else S H4)
    (hd : ∀ H, Ex H1 H → H D = some (.lst ((xs.filter c).map f)) → Qd H) :
    ∃ W : Nat → Nat → Hp → Prop, (∃ m, W 0 m (upd H1 D (.lst []))) ∧ ∀ i m H, W i m H →
      (J.stop i H ∧ Qd H) ∨ (J.go i H ∧ ∃ Nx : Hp → Prop, (∀ H2, Nx H2 → ∃ m2, m2 < m ∧ W (i + 1) m2 H2) ∧ ∀ x H2, J.yld i H x H2 → g x (wipe σ vs) H2 fun σ2 H3 => wipe σ2 vs = wipe σ vs ∧ tt σ2 H3 fun b H4 =>
        if b = true then te σ2 H4 fun y H5 => ∃ acc, H5 D = some (.lst acc) ∧ acc.length < sizeLine ∧ Nx (upd H5 D (.lst (acc ++ [y]))) else Nx H4) := by
  refine lc_out w (fun i => ((xs.take i).filter c).map f) (by simp) hD (fun i hi => ?_) hG (fun i x H H2 Nx hi e hDi y kA kN => ?_) (fun H e h => hd H e ?_)
  · rw [List.length_map]
    refine Nat.lt_of_le_of_lt (Nat.le_trans (List.length_filter_le _ _) (Nat.le_trans (by rw [List.length_take]; exact Nat.min_le_right _ _) (by rw [hn]; exact hl))) (by decide)
  · obtain ⟨a, ha⟩ : ∃ a, xs[i]? = some a := ⟨xs[i]'(by omega), List.getElem?_eq_getElem (by omega)⟩
    refine hs i x a H H2 _ _ ha e y (fun y2 H5 e5 hc hy => kA y2 H5 e5 ?_) (fun H4 e4 hc => kN H4 e4 ?_)
    · rw [take_more ha, List.filter_append, List.map_append, hy]
      simp [hc]
    · rw [take_more ha, List.filter_append, List.map_append]
      simp [hc]
  · rw [h, List.take_of_length_le (by rw [hn]; exact Nat.le_refl _)]
/-- rows that pass a test -/
theorem RowsR.filt {H : Hp} (c : List Int → Bool) : ∀ {xs : List V} {hss : List (List Int)}, RowsR H xs hss → RowsR H (((xs.zip hss).filter fun z => c z.2).map fun z => z.1) (hss.filter c)
  | _, _, .nil => .nil
  | _, _, .cons (a := x) (b := hs) q t => by
    have ih := RowsR.filt c t
    rw [List.zip_cons_cons]
    cases e : c hs with
    | false =>
      rw [List.filter_cons_of_neg (by simp [e]), List.filter_cons_of_neg (by simp [e])]
      exact ih
    | true =>
      rw [List.filter_cons_of_pos (by simp [e]), List.filter_cons_of_pos (by simp [e])]
      exact .cons q ih
theorem zip_at2 {α β : Type} {l : List α} {m : List β} {i : Nat} {z : α × β} (h : (l.zip m)[i]? = some z) : l[i]? = some z.1 ∧ m[i]? = some z.2 := by
  rw [List.getElem?_zip_eq_some] at h
  exact h
/-- tuple(s), s a list or a tuple -/
theorem tup_of {K : PySem.W.Frag} {H : Hp} {q : Bool × Addr} {xs : List V} {Q : VK} (h : SqH H q xs) (k : ∀ t H2, Ex H H2 → H2 t = some (.tup xs) → Q (.ref t) H2) : (SqL K H q.2 xs ∧ ∀ p, H p = none → Q (.ref p) (upd H p (.tup xs))) ∨ SqT K H q.2 xs ∧ Q (.ref q.2) H := by
  obtain ⟨b, a⟩ := q
  cases b
  · exact .inl ⟨SqL.of (show H a = some (.lst xs) from h), fun p hp => k p _ (exn hp) upd_same⟩
  · exact .inr ⟨SqT.of (show H a = some (.tup xs) from h), k a H exr h⟩
def rTupQ : List V → Hp → VK → Prop := fun vs H Q => ∃ (q : Bool × Addr) (xs : List V), vs = [.ref q.2] ∧ SqH H q xs ∧ ∀ t H2, Ex H H2 → H2 t = some (.tup xs) → Q (.ref t) H2
theorem call_tuple_q {X : Cx} : CallR X (.type "tuple") rTupQ := by
  intro pins s σ H vs us Q I r h
  obtain ⟨q, xs, rfl, hq, k⟩ := h
  exact call_tuple_of pins s σ H _ us Q I r ⟨q.2, xs, rfl, tup_of hq k⟩
theorem SqH.uniq {H : Hp} {q : Bool × Addr} {xs ys : List V} (h1 : SqH H q xs) (h2 : SqH H q ys) : xs = ys := by
  obtain ⟨b, a⟩ := q
  cases b
  · have e : some (HO.lst xs) = some (HO.lst ys) := (show H a = some (.lst xs) from h1).symm.trans (show H a = some (.lst ys) from h2)
    injection e with e
    injection e
  · have e : some (HO.tup xs) = some (HO.tup ys) := (show H a = some (.tup xs) from h1).symm.trans (show H a = some (.tup ys) from h2)
    injection e with e
    injection e
theorem RowsR.monoT {H H2 : Hp} (e : ∀ c xs, H c = some (.tup xs) → H2 c = some (.tup xs)) : ∀ {xs : List V} {hss : List (List Int)}, RowsR H xs hss → RowsR H2 xs hss
  | _, _, .nil => .nil
  | _, _, .cons ⟨r, h1, h2⟩ t => .cons ⟨r, h1, e _ _ h2⟩ (RowsR.monoT e t)

/-- a source of draws stands at s; n draws more may be taken -/
def Sr5 (H : Hp) (s : Addr) (n : Nat) : Prop := ∃ a b c : Int, H s = some (.lst [.int a, .int b, .int c]) ∧ 0 ≤ b ∧ b < 2147483647 ∧ 0 ≤ c ∧ c + n ≤ 1000000000000
theorem Sr5.mono {s : Addr} {H H2 : Hp} {n : Nat} (e : Ex H H2) (h : Sr5 H s n) : Sr5 H2 s n := by
  obtain ⟨a, b, c, h, q⟩ := h
  exact ⟨a, b, c, e _ _ h, q⟩
theorem Sr5.less {s : Addr} {H : Hp} {n m : Nat} (h : Sr5 H s n) (l : m ≤ n) : Sr5 H s m := by
  obtain ⟨a, b, c, h, q1, q2, q3, q4⟩ := h
  exact ⟨a, b, c, h, q1, q2, q3, by omega⟩
theorem Sr5.ne {s p : Addr} {H : Hp} {n : Nat} (h : Sr5 H s n) (hp : H p = none) : p ≠ s := by
  obtain ⟨a, b, c, h, _⟩ := h
  exact (ne_of_none h hp).symm
theorem Sr5.new {s p : Addr} {H : Hp} {o : HO} {n : Nat} (h : Sr5 H s n) (hp : H p = none) : Sr5 (upd H p o) s n := Sr5.mono (exn hp) h
theorem Sr5.tup {s q : Addr} {H H2 : Hp} {xs : List V} {n : Nat} (src : Sr5 H s n) (h : H q = some (.tup xs)) (xb : XB s H H2) : H2 q = some (.tup xs) := by
  obtain ⟨a, b, c, e, _⟩ := src
  exact xb _ _ (ne_of h e (by intro z; cases z)) h
section
variable {P : Program} {w : World} {K : PySem.W.Frag} {mg : Str → Option Value} {base : Heap}
def sp_law_cell_at (K : PySem.W.Frag) : Sp := fun vs H Q _ => ∃ (a : Addr) (ns : List Int) (k : Int), vs = [.ref a, .int k] ∧ SqL K H a (ns.map V.int) ∧ 0 ≤ k ∧ ∀ i : Int, Q (.int i) H
theorem ok_law_cell_at (T : TX K mg) : FnOk P w K mg base CX0 1 T.f_law_cell_at T.fd_law_cell_at ["_law_script", "_law_k"] (sp_law_cell_at K) := by
  refine T.F_law_cell_at.ok sc_law_cell_at (fun vs H Q E h => ?_) (fun cdv A outer s H vs Q E hr h => ?_)
  · obtain ⟨a, ns, k, rfl, _⟩ := h
    rfl
  · obtain ⟨a, ns, j, rfl, hl, h0, k⟩ := h
    refine ⟨_, (pss_one (ps_ret (pe_ifExp (pt_cmpR op_lt (pv 1) (pe_callB call_len_seq (by rfl) T.z_len (by decide +kernel) (pa_cons (pv 0) pa_nil)) (nomark _)) (pe_ix ix_list (pv 0) (pv 1) (fun _ _ => rfl)) pe_int))), ?_⟩
    refine ⟨_, rfl, _, rfl, a, _, rfl, .inl hl, _, _, rfl, rfl, _, rfl, ?_⟩
    refine ite2 (fun h => ?_) (fun _ => k 0)
    rw [List.length_map] at h
    have hj : j < ns.length := of_decide_eq_true h
    obtain ⟨v, _, gv⟩ := at_ex (xs := ns) h0 hj
    exact ⟨_, rfl, _, rfl, a, _, _, _, rfl, rfl, hl, gv, k v⟩
def sp_law_source : Sp := fun vs H Q _ => ∃ c : Int, vs = [.int c] ∧ ∀ H2 s, Ex H H2 → H s = none → Sr5 H2 s 1000000000 → Q (.ref s) H2
theorem ok_law_source (T : TX K mg) : FnOk P w K mg base CX0 1 T.f_law_source T.fd_law_source ["_law_cell"] sp_law_source := by
  refine T.F_law_source.ok sc_law_source (fun vs H Q E h => ?_) (fun cdv A outer s H vs Q E hr h => ?_)
  · obtain ⟨c, rfl, _⟩ := h
    rfl
  · obtain ⟨c, rfl, k⟩ := h
    refine ⟨_, (pss_one (ps_ret (pe_lst (pa_cons (pe_op op_mulI (pv 0) (pe_callTy call_int1 (by rfl) T.z_int (by decide +kernel) (pa_cons (pe_cmpR op_ge (pv 0) (pe_op op_pow pe_int pe_int) (nomark _)) pa_nil))) (pa_cons (pe_op op_mod (pv 0) pe_int) (pa_cons pe_int pa_nil)))))), ?_⟩
    refine ⟨_, rfl, _, rfl, _, _, rfl, rfl, ⟨by decide, by decide, by decide⟩, _, _, rfl, rfl, .inr ⟨_, rfl, _, _, rfl, rfl, mul_ok (.inr ?_), ?_⟩⟩
    · split <;> decide
    refine ⟨_, rfl, _, _, rfl, rfl, (by show (0 : Int) < _; decide), by show 3 ≤ sizeLine; decide, fun s hs => k _ s (exn hs) hs ⟨_, _, 0, upd_same, mod_lo (by decide), mod_hi (by decide), by decide, by decide⟩⟩
def sp_law_take : Sp := fun vs H Q _ => ∃ (s : Addr) (n : Int) (m : Nat), vs = [.ref s, .int n] ∧ Sr5 H s (m + 1) ∧ 0 < n ∧ n.natAbs < 2 ^ 8000 ∧ ∀ r H2, 0 ≤ r → r < n → XB s H H2 → Sr5 H2 s m → Q (.int r) H2
theorem ok_law_take (T : TX K mg) : FnOk P w K mg base CX0 1 T.f_law_take T.fd_law_take ["_law_source_here", "_law_bound"] sp_law_take := by
  refine T.F_law_take.ok sc_law_take (fun vs H Q E h => ?_) (fun cdv A outer s H vs Q E hr h => ?_)
  · obtain ⟨s, n, m, rfl, _⟩ := h
    rfl
  · obtain ⟨s, n, m, rfl, ⟨a, b, c, hs, b0, b1, c0, c1⟩, n0, n8, k⟩ := h
    refine ⟨_, (pss_cons (ps_if (pt_cmpR op_gt (pe_ix ix_list (pv 0) pe_int (fun _ _ => rfl)) pe_int (nomark _)) (pss_cons (ps_set (i := 2) sc_law_take.nd rfl (Or.inl rfl) (pe_op op_mod (pe_ix ix_list (pv 0) pe_int (fun _ _ => rfl)) (pv 1))) (pss_cons (ps_asg (pe_op op_fdivW (pe_ix ix_list (pv 0) pe_int (fun _ _ => rfl)) (pv 1)) (pg_sub (pv 0) pe_int set_list)) (pss_one (ps_ret (pv 2))))) pss_nil) (pss_cons (ps_asg (pe_op op_add (pe_ix ix_list (pv 0) pe_int (fun _ _ => rfl)) pe_int) (pg_sub (pv 0) pe_int set_list)) (pss_cons (ps_set (i := 3) sc_law_take.nd rfl (Or.inl rfl) (pe_ix ix_list (pe_lst (pa_cons pe_int (pa_cons pe_int (pa_cons pe_int (pa_cons pe_int pa_nil))))) (pe_op op_mod (pe_ix ix_list (pv 0) pe_int (fun _ _ => rfl)) pe_int) (fun _ _ => rfl))) (pss_cons (ps_set (i := 4) sc_law_take.nd rfl (Or.inl rfl) (pe_op op_mod (pe_op op_pow (pe_op op_add (pe_op op_add (pe_ix ix_list (pv 0) pe_int (fun _ _ => rfl)) (pe_op op_mulI pe_int (pe_ix ix_list (pv 0) pe_int (fun _ _ => rfl)))) pe_int) pe_int) (pv 3))) (pss_cons (ps_set (i := 4) sc_law_take.nd rfl (Or.inl rfl) (pe_op op_mod (pe_op op_mulI (pe_op op_add (pv 4) (pe_ix ix_list (pv 0) pe_int (fun _ _ => rfl))) (pe_op op_add (pe_op op_fdivW (pv 4) pe_int) pe_int)) (pv 3))) (pss_cons (ps_set (i := 4) sc_law_take.nd rfl (Or.inl rfl) (pe_op op_mod (pe_op op_mulI (pv 4) (pe_op op_add (pe_op op_add (pe_op op_fdivW (pv 4) pe_int) (pe_op op_mulI pe_int (pe_ix ix_list (pv 0) pe_int (fun _ _ => rfl)))) pe_int)) (pv 3))) (pss_one (ps_ret (pe_op op_mod (pe_op op_fdivW (pv 4) pe_int) (pv 1)))))))))), ?_⟩
    refine ⟨_, rfl, s, _, _, _, rfl, rfl, SqL.of hs, rfl, _, _, rfl, rfl, _, rfl, ?_⟩
    refine ite2 (fun _ => ?_) (fun _ => ?_)
    · refine ⟨_, rfl, s, _, _, _, rfl, rfl, SqL.of hs, rfl, _, rfl, _, _, rfl, rfl, n0, ?_⟩
      refine ⟨_, rfl, s, _, _, _, rfl, rfl, SqL.of hs, rfl, _, rfl, _, _, rfl, rfl, wide_div n0 n8 (by decide) (by decide), _, rfl, s, _, _, 0, rfl, rfl, hs, rfl, ?_⟩
      exact ⟨_, rfl, k _ _ (mod_lo n0) (mod_hi n0) XB.upd ⟨_, _, _, upd_same, b0, b1, c0, by omega⟩⟩
    · refine ⟨_, rfl, s, _, _, _, rfl, rfl, SqL.of hs, rfl, _, _, rfl, rfl, _, rfl, s, _, _, 2, rfl, rfl, hs, rfl, ?_⟩
      have xb0 : XB s H (upd H s (.lst [.int a, .int b, .int (c + 1)])) := XB.upd
      have hs1 : upd H s (.lst [.int a, .int b, .int (c + 1)]) s = some (.lst [.int a, .int b, .int (c + 1)]) := upd_same
      show tSeq _ _ _ _ (upd H s (.lst [.int a, .int b, .int (c + 1)]))
      generalize upd H s (.lst [.int a, .int b, .int (c + 1)]) = H1 at xb0 hs1
      -- the prime
      refine ⟨by show 4 ≤ sizeLine; decide, fun pl hpl => ?_⟩
      have np : s ≠ pl := ne_of_none hs1 hpl
      have hs2 := exn (o := .lst [.int 2147483629, .int 2147483587, .int 2147483579, .int 2147483563]) hpl _ _ hs1
      obtain ⟨pr, mp, gp⟩ := at_ex (xs := [2147483629, 2147483587, 2147483579, 2147483563]) (r := (c + 1) % 4) (mod_lo (by decide)) (mod_hi (by decide))
      have p1 : 2000000000 < pr ∧ pr < 2147483648 := by
        simp only [List.mem_cons, List.not_mem_nil, or_false] at mp
        omega
      refine ⟨_, rfl, s, _, _, _, rfl, rfl, SqL.of hs2, rfl, _, _, rfl, rfl, (by show (0 : Int) < 4; decide), pl, _, _, _, rfl, rfl, SqL.of upd_same, gp, ?_⟩
      have xb2 : XB s H (upd H1 pl (.lst [.int 2147483629, .int 2147483587, .int 2147483579, .int 2147483563])) := xb0.trans (XB.of (exn hpl))
      show tSeq _ _ _ _ (upd H1 pl (.lst [.int 2147483629, .int 2147483587, .int 2147483579, .int 2147483563]))
      generalize upd H1 pl (.lst [.int 2147483629, .int 2147483587, .int 2147483579, .int 2147483563]) = H2 at xb2 hs2
      have e64 : (2 : Nat) ^ 64 = 18446744073709551616 := by decide
      refine ⟨_, rfl, s, _, _, _, rfl, rfl, SqL.of hs2, rfl, _, rfl, s, _, _, _, rfl, rfl, SqL.of hs2, rfl, _, _, rfl, rfl, mul_ok (.inl (by decide)), _, _, rfl, rfl, _, _, rfl, rfl, _, _, rfl, rfl, ⟨by decide, by decide, by rw [e64]; omega⟩, _, rfl, _, _, rfl, rfl, (by show 0 < pr; omega), ?_⟩
      have q1 := mod_lo (i := (b + 6007 * (c + 1) + 29) ^ (3 : Int).toNat) (n := pr) (by omega)
      have q2 := mod_hi (i := (b + 6007 * (c + 1) + 29) ^ (3 : Int).toNat) (n := pr) (by omega)
      dsimp only
      generalize (b + 6007 * (c + 1) + 29) ^ (3 : Int).toNat % pr = x1 at q1 q2
      refine ⟨_, rfl, _, rfl, s, _, _, _, rfl, rfl, SqL.of hs2, rfl, _, _, rfl, rfl, _, rfl, _, _, rfl, rfl, ⟨by decide, by decide +kernel⟩, _, _, rfl, rfl, _, _, rfl, rfl, mul_ok (.inr (by omega)), _, rfl, _, _, rfl, rfl, (by show 0 < pr; omega), ?_⟩
      have q3 := mod_lo (i := (x1 + (c + 1)) * (x1 / 1021 + 50021)) (n := pr) (by omega)
      have q4 := mod_hi (i := (x1 + (c + 1)) * (x1 / 1021 + 50021)) (n := pr) (by omega)
      dsimp only
      generalize (x1 + (c + 1)) * (x1 / 1021 + 50021) % pr = x2 at q3 q4
      refine ⟨_, rfl, _, rfl, _, _, rfl, rfl, ⟨by decide, by decide +kernel⟩, _, rfl, s, _, _, _, rfl, rfl, SqL.of hs2, rfl, _, _, rfl, rfl, mul_ok (.inl (by decide)), _, _, rfl, rfl, _, _, rfl, rfl, _, _, rfl, rfl, mul_ok (.inl (by omega)), _, rfl, _, _, rfl, rfl, (by show 0 < pr; omega), ?_⟩
      refine ⟨_, rfl, _, _, rfl, rfl, ⟨by decide, by decide +kernel⟩, _, rfl, _, _, rfl, rfl, n0, ?_⟩
      exact k _ _ (mod_lo n0) (mod_hi n0) xb2 ⟨_, _, _, hs2, b0, b1, by omega, by omega⟩
def sp_law_large : Sp := fun vs H Q _ => ∃ (s : Addr) (n : Int) (m : Nat), vs = [.ref s, .int n] ∧ Sr5 H s (m + 4) ∧ 0 < n ∧ ∀ r H2, 0 ≤ r → r < n → XB s H H2 → Sr5 H2 s m → Q (.int r) H2
theorem ok_law_large (T : TX K mg) : FnOk P w K mg base CX0 2 T.f_law_large T.fd_law_large ["_law_source_here", "_law_bound"] sp_law_large := by
  refine T.F_law_large.ok sc_law_large (fun vs H Q E h => ?_) (fun cdv A outer s H vs Q E hr h => ?_)
  · obtain ⟨s, n, m, rfl, _⟩ := h
    rfl
  · obtain ⟨s, n, m, rfl, hs, n0, k⟩ := h
    refine ⟨_, (pss_cons (ps_set (i := 2) sc_law_large.nd rfl (Or.inl rfl) pe_int) (pss_cons (ps_for PassesOwn.never rfl (pi_range1 rfl T.z_range (pa_cons pe_int pa_nil)) (pg_name (i := 3) sc_law_large.nd rfl (Or.inl rfl)) (pss_one (ps_set (i := 2) sc_law_large.nd rfl (Or.inl rfl) (pe_op op_add (pe_op op_mulI (pv 2) (pe_op op_pow pe_int pe_int)) (pe_call (ok_law_take T) hr rfl T.m_law_take T.F_law_take.kp T.b_law_take .nil pass0 (pa_cons (pv 0) (pa_cons (pe_op op_pow pe_int pe_int) pa_nil))))))) (pss_one (ps_ret (pe_op op_mod (pv 2) (pv 1)))))), ?_⟩
    refine ⟨4, rfl, by decide, by decide, ?_⟩
    refine for_it walk_range (fun i σ H2 => ∃ (x : Int) (y : Option V), σ = [some (.ref s), some (.int n), some (.int x), y] ∧ XB s H H2 ∧ Sr5 H2 s (m + (4 - i))) ⟨0, none, rfl, XB.refl, hs⟩ (fun _ _ _ _ _ => True.intro) ?_ ?_
    · rintro i x σ _ H2 hi ⟨y, z, rfl, xb, sr⟩ ⟨rfl, rfl⟩
      have hi4 : i < 4 := hi
      have e9 : (10 : Int) ^ (9 : Int).toNat = 1000000000 := by decide
      refine ⟨_, rfl, _, _, rfl, rfl, ⟨by decide, by decide, by decide⟩, _, _, rfl, rfl, mul_ok (.inr (by rw [e9]; omega)), _, rfl, _, _, rfl, rfl, ⟨by decide, by decide, by decide⟩, s, _, m + (4 - (i + 1)), rfl, sr.less (by omega), by decide, by decide +kernel, fun r H3 r0 r1 xb3 sr3 => ?_⟩
      exact ⟨_, _, rfl, rfl, _, _, rfl, xb.trans xb3, sr3⟩
    · rintro σ H2 ⟨x, y, rfl, xb, sr⟩
      exact ⟨_, rfl, _, rfl, _, _, rfl, rfl, n0, k _ _ (mod_lo n0) (mod_hi n0) xb sr⟩
end

/-! ### inverses -/
structure InvI (u m a x b y : Int) : Prop where
  a1 : 0 < a
  b0 : 0 ≤ b
  am : a ≤ m
  bm : b ≤ m
  ax : m ∣ a - x * u
  bx : m ∣ b - y * u
  g : Int.gcd a b = Int.gcd u m
  sz : (x.natAbs : Int) * b + (y.natAbs : Int) * a ≤ m
theorem InvI.init {u m : Int} (h : 1 ≤ m) : InvI u m m 0 (u % m) 1 where
  a1 := by omega
  b0 := Int.emod_nonneg _ (by omega)
  am := Int.le_refl _
  bm := Int.le_of_lt (Int.emod_lt_of_pos _ (by omega))
  ax := by rw [Int.zero_mul, Int.sub_zero]; exact Int.dvd_refl _
  bx := by
    have e : u % m - 1 * u = m * (-(u / m)) := by
      have := Int.emod_add_mul_ediv u m
      grind
    rw [e]
    exact Int.dvd_mul_right _ _
  g := gcd_turn (by omega)
  sz := by
    have e1 : ((0 : Int).natAbs : Int) = 0 := rfl
    have e2 : ((1 : Int).natAbs : Int) = 1 := rfl
    rw [e1, e2]
    omega
theorem InvI.step {u m a x b y : Int} (h : InvI u m a x b y) (hb : 0 < b) : InvI u m b y (a - a / b * b) (x - a / b * y) ∧ a - a / b * b < b := by
  have e : a - a / b * b = a % b := by
    have := Int.emod_add_mul_ediv a b
    grind
  have q0 : 0 ≤ a / b := Int.ediv_nonneg (by have := h.a1; omega) (by omega)
  have l1 := Int.emod_lt_of_pos a hb
  have l0 := Int.emod_nonneg a (show b ≠ 0 by omega)
  refine ⟨⟨hb, by omega, h.bm, by have := h.bm; omega, h.bx, ?_, ?_, ?_⟩, by omega⟩
  · have e2 : a - a / b * b - (x - a / b * y) * u = (a - x * u) - a / b * (b - y * u) := by grind
    rw [e2]
    exact Int.dvd_sub h.ax (Int.dvd_trans h.bx (Int.dvd_mul_left _ _))
  · rw [e, gcd_turn (by omega)]
    exact h.g
  · have h1 := h.sz
    have z1 : ((x - a / b * y).natAbs : Int) ≤ x.natAbs + a / b * y.natAbs := by
      have t1 : (x - a / b * y).natAbs ≤ x.natAbs + (a / b * y).natAbs := by omega
      have t2 : ((a / b * y).natAbs : Int) = a / b * y.natAbs := by
        rw [Int.natAbs_mul, Int.natCast_mul, Int.natAbs_of_nonneg q0]
      omega
    have z2 := Int.mul_le_mul_of_nonneg_right z1 (show 0 ≤ b by omega)
    have z3 : (y.natAbs : Int) * (a - a / b * b) + ((x.natAbs : Int) + a / b * y.natAbs) * b = (y.natAbs : Int) * a + (x.natAbs : Int) * b := by grind
    omega
theorem InvI.ybound {u m a x b y : Int} (h : InvI u m a x b y) : (y.natAbs : Int) ≤ m := by
  have h1 := h.sz
  have h2 : 0 ≤ (x.natAbs : Int) * b := Int.mul_nonneg (by omega) h.b0
  have h3 : (y.natAbs : Int) * 1 ≤ (y.natAbs : Int) * a := Int.mul_le_mul_of_nonneg_left (by have := h.a1; omega) (by omega)
  omega
theorem InvI.done {u m a x y : Int} (h : InvI u m a x 0 y) (co : Int.gcd u m = 1) : u * (x % m) % m = 1 % m := by
  have a1 : a = 1 := by
    have := h.g
    rw [co] at this
    have h2 : a.natAbs = 1 := by rw [← this]; simp
    have := h.a1
    omega
  have hx := h.ax
  rw [a1] at hx
  rw [Int.mul_emod, Int.emod_emod, ← Int.mul_emod, Int.mul_comm]
  exact (emod_eq_iff.mpr hx).symm
theorem InvI.ex {u m a x y : Int} (h : InvI u m a x 0 y) : (1 : Int) ≤ m := by
  have := h.a1
  have := h.am
  omega
/-- inverses are unique -/
theorem inv_unique {u m r t : Int} (r0 : 0 ≤ r) (r1 : r < m) (t0 : 0 ≤ t) (t1 : t < m) (hr : u * r % m = 1 % m) (ht : u * t % m = 1 % m) : r = t := by
  have h1 : m ∣ u * r - 1 := emod_eq_iff.mp hr
  have h2 : m ∣ u * t - 1 := emod_eq_iff.mp ht
  have h3 : m ∣ r - t := by
    have e : r - t = t * (u * r - 1) - r * (u * t - 1) := by grind
    rw [e]
    exact Int.dvd_sub (Int.dvd_trans h1 (Int.dvd_mul_left _ _)) (Int.dvd_trans h2 (Int.dvd_mul_left _ _))
  have h4 := emod_eq_iff.mpr h3
  rw [Int.emod_eq_of_lt r0 r1, Int.emod_eq_of_lt t0 t1] at h4
  exact h4

section
variable {P : Program} {w : World} {K : PySem.W.Frag} {mg : Str → Option Value} {base : Heap}
end

/-! ### sums of two targets on a ring -/
theorem odd_split : ∀ (f : Nat) (n : Int), 1 ≤ n → n.natAbs ≤ f → ∃ (k : Nat) (a : Int), n = 2 ^ k * (2 * a + 1)
  | 0, n, h, l => by omega
  | f + 1, n, h, l => by
    by_cases o : n % 2 = 1
    · exact ⟨0, n / 2, by rw [Int.pow_zero]; omega⟩
    · obtain ⟨k, a, e⟩ := odd_split f (n / 2) (by omega) (by omega)
      refine ⟨k + 1, a, ?_⟩
      have e2 : n = 2 * (n / 2) := by omega
      rw [e2, e, Int.pow_succ]
      grind
theorem odd_le {k j : Nat} {o p : Int} (h : (2 : Int) ^ k * o = 2 ^ j * p) (ho : o % 2 = 1) (hkj : k ≤ j) : o = p ∧ k = j := by
  obtain ⟨i, rfl⟩ := Nat.exists_eq_add_of_le hkj
  rw [Int.pow_add, Int.mul_assoc] at h
  have h2 : o = 2 ^ i * p := Int.eq_of_mul_eq_mul_left (by have := pow2_pos k; omega) h
  cases i with
  | zero => exact ⟨by rw [h2, Int.pow_zero, Int.one_mul], rfl⟩
  | succ i =>
    rw [Int.pow_succ] at h2
    have : o = 2 * (2 ^ i * p) := by rw [h2]; grind
    omega
theorem odd_unique {k j : Nat} {o p : Int} (h : (2 : Int) ^ k * o = 2 ^ j * p) (ho : o % 2 = 1) (hp : p % 2 = 1) : o = p ∧ k = j := by
  rcases Nat.le_total k j with l | l
  · exact odd_le h ho l
  · obtain ⟨a, b⟩ := odd_le h.symm hp l
    exact ⟨a.symm, b.symm⟩
/-- c calls reach the place at distance d from the first of two targets, and fewer do not -/
structure TwoOk (n g d f : Int) (c : Nat) : Prop where
  dv : d * 2 ^ c % gcdI g n = 0
  le : d * 2 ^ c / gcdI g n * f % (n / gcdI g n) ≤ 2 ^ c
  least : c = 0 ∨ ((2 : Int) ^ (c - 1) < n ∧ (¬ d * 2 ^ (c - 1) % gcdI g n = 0 ∨ (2 : Int) ^ (c - 1) < d * 2 ^ (c - 1) / gcdI g n * f % (n / gcdI g n)))
theorem coprime_parts {g n : Int} (h : 1 ≤ n) : Int.gcd (g / gcdI g n) (n / gcdI g n) = 1 := Int.gcd_ediv_gcd_ediv_gcd (gcd_pos2 h)
theorem two_next {n g d f : Int} {c : Nat} (h0 : 0 < n / gcdI g n) (s0 : 0 < gcdI g n) (f0 : d * 2 ^ c % gcdI g n = 0) (f1 : d * 2 ^ c / gcdI g n * f % (n / gcdI g n) ≤ 2 ^ c) : d * 2 ^ (c + 1) % gcdI g n = 0 ∧ d * 2 ^ (c + 1) / gcdI g n * f % (n / gcdI g n) ≤ 2 ^ (c + 1) := by
  generalize gcdI g n = sh at *
  generalize n / sh = per at *
  obtain ⟨x, hx⟩ := Int.dvd_of_emod_eq_zero f0
  have e : d * 2 ^ (c + 1) = sh * (2 * x) := by
    rw [Int.pow_succ, ← Int.mul_assoc, hx]
    grind
  have e1 : d * 2 ^ (c + 1) / sh = 2 * x := by rw [e, Int.mul_ediv_cancel_left _ (by omega)]
  have e2 : d * 2 ^ c / sh = x := by rw [hx, Int.mul_ediv_cancel_left _ (by omega)]
  rw [e2] at f1
  refine ⟨by rw [e]; exact Int.mul_emod_right _ _, ?_⟩
  rw [e1]
  have h1 := mod_lo (i := x * f) h0
  have e3 : 2 * x * f % per = 2 * (x * f % per) % per := by
    rw [Int.mul_assoc, Int.mul_emod, Int.mul_emod 2 (x * f % per), Int.emod_emod]
  rw [e3, Int.pow_succ]
  have h2 : 2 * (x * f % per) % per ≤ 2 * (x * f % per) := by
    rcases Int.lt_or_le (2 * (x * f % per)) per with l | l
    · rw [Int.emod_eq_of_lt (by omega) l]
      exact Int.le_refl _
    · have := mod_hi (i := 2 * (x * f % per)) h0
      omega
  omega
theorem two_more {n g d f : Int} (h0 : 0 < n / gcdI g n) (s0 : 0 < gcdI g n) {c : Nat} (f0 : d * 2 ^ c % gcdI g n = 0) (f1 : d * 2 ^ c / gcdI g n * f % (n / gcdI g n) ≤ 2 ^ c) : ∀ i : Nat, d * 2 ^ (c + i) % gcdI g n = 0 ∧ d * 2 ^ (c + i) / gcdI g n * f % (n / gcdI g n) ≤ 2 ^ (c + i)
  | 0 => ⟨f0, f1⟩
  | i + 1 => by
    obtain ⟨a, b⟩ := two_more h0 s0 f0 f1 i
    exact two_next h0 s0 a b
theorem TwoOk.notLess {n g d f : Int} {c e : Nat} (h0 : 0 < n / gcdI g n) (s0 : 0 < gcdI g n) (h : TwoOk n g d f c) (h2 : TwoOk n g d f e) : ¬ c < e := fun l => by
  obtain ⟨i, rfl⟩ : ∃ i, e = c + i + 1 := ⟨e - c - 1, by omega⟩
  obtain ⟨a, b⟩ := two_more h0 s0 h.dv h.le i
  rcases h2.least with z | ⟨_, z | z⟩
  · omega
  · exact z a
  · have e1 : c + i + 1 - 1 = c + i := rfl
    rw [e1] at z
    omega
theorem TwoOk.same {n g d f : Int} {c e : Nat} (h0 : 0 < n / gcdI g n) (s0 : 0 < gcdI g n) (h : TwoOk n g d f c) (h2 : TwoOk n g d f e) : c = e := by
  have := TwoOk.notLess h0 s0 h h2
  have := TwoOk.notLess h0 s0 h2 h
  omega
/-- what the ring leaves of X, in shares -/
theorem share_mod {n sh X : Int} (s0 : 0 < sh) (hn : sh ∣ n) (hX : X % sh = 0) : X % n % sh = 0 ∧ ∀ f, X % n / sh * f % (n / sh) = X / sh * f % (n / sh) := by
  obtain ⟨x, rfl⟩ := Int.dvd_of_emod_eq_zero hX
  obtain ⟨per, rfl⟩ := hn
  have e : sh * x % (sh * per) = sh * (x % per) := Int.mul_emod_mul_of_pos _ _ s0
  rw [e]
  refine ⟨Int.mul_emod_right _ _, fun f => ?_⟩
  rw [Int.mul_ediv_cancel_left _ (by omega), Int.mul_ediv_cancel_left _ (by omega), Int.mul_ediv_cancel_left _ (by omega), Int.mul_emod, Int.emod_emod, ← Int.mul_emod]
theorem share_not {n sh X : Int} (hn : sh ∣ n) (hX : ¬ X % sh = 0) : ¬ X % n % sh = 0 := by
  rw [Int.emod_emod_of_dvd _ hn]
  exact hX
/-- no call: at one of the two -/
theorem two_zero {n a b p f : Int} (a0 : 0 ≤ a) (a1 : a < n) (b0 : 0 ≤ b) (b1 : b < n) (p0 : 0 ≤ p) (p1 : p < n) (s0 : 0 < gcdI ((b - a) % n) n)
    (hf : (b - a) % n / gcdI ((b - a) % n) n * f % (n / gcdI ((b - a) % n) n) = 1 % (n / gcdI ((b - a) % n) n)) (h : TwoOk n ((b - a) % n) ((p - a) % n) f 0) : p = a ∨ p = b := by
  have n0 : 0 < n := by omega
  have gd : gcdI ((b - a) % n) n ∣ n := Int.gcd_dvd_right _ _
  have gg : gcdI ((b - a) % n) n ∣ (b - a) % n := Int.gcd_dvd_left _ _
  have h1 := h.dv
  have h2 := h.le
  rw [Int.pow_zero, Int.mul_one] at h1
  rw [Int.pow_zero, Int.mul_one] at h2
  have d0 := mod_lo (i := p - a) n0
  have d1 := mod_hi (i := p - a) n0
  have g0 := mod_lo (i := b - a) n0
  have g1 := mod_hi (i := b - a) n0
  have back : ∀ q r : Int, 0 ≤ q → q < n → 0 ≤ r → r < n → (q - a) % n = (r - a) % n → q = r := fun q r q0 q1 r0 r1 e => by
    have := emod_eq_iff.mp e
    have e2 : q - a - (r - a) = q - r := by omega
    rw [e2] at this
    have := emod_eq_iff.mpr this
    rwa [Int.emod_eq_of_lt q0 q1, Int.emod_eq_of_lt r0 r1] at this
  have fin : (p - a) % n = 0 ∨ (p - a) % n = (b - a) % n → p = a ∨ p = b := by
    rintro (z | z)
    · left
      exact back p a p0 p1 a0 a1 (by rw [z, Int.sub_self, Int.zero_emod])
    · right
      exact back p b p0 p1 b0 b1 z
  apply fin
  clear fin back
  generalize hg : (b - a) % n = g at *
  generalize (p - a) % n = d at *
  generalize gcdI g n = sh at *
  obtain ⟨x, rfl⟩ := Int.dvd_of_emod_eq_zero h1
  obtain ⟨per, rfl⟩ := gd
  obtain ⟨u, rfl⟩ := gg
  rw [Int.mul_ediv_cancel_left _ (by omega)] at h2 hf
  rw [Int.mul_ediv_cancel_left _ (by omega)] at h2 hf
  have per0 : 0 < per := Int.pos_of_mul_pos_right n0 s0
  have x0 := mod_lo (i := x * f) per0
  have hf2 : per ∣ u * f - 1 := emod_eq_iff.mp hf
  have x1 : x < per := Int.lt_of_mul_lt_mul_left d1 (by omega)
  have x2 : 0 ≤ x := Int.nonneg_of_mul_nonneg_right d0 s0
  have u1 : u < per := Int.lt_of_mul_lt_mul_left g1 (by omega)
  have u2 : 0 ≤ u := Int.nonneg_of_mul_nonneg_right g0 s0
  rcases Int.lt_or_le (x * f % per) 1 with l | l
  · left
    have e : x * f % per = 0 := by omega
    have hx : per ∣ x * f := Int.dvd_of_emod_eq_zero e
    have hx2 : per ∣ x := by
      have e3 : x = u * (x * f) - x * (u * f - 1) := by grind
      rw [e3]
      exact Int.dvd_sub (Int.dvd_trans hx (Int.dvd_mul_left _ _)) (Int.dvd_trans hf2 (Int.dvd_mul_left _ _))
    have := Int.emod_eq_zero_of_dvd hx2
    rw [Int.emod_eq_of_lt x2 x1] at this
    rw [this, Int.mul_zero]
  · right
    have e : x * f % per = 1 := by omega
    have p1 : 1 < per := by have := mod_hi (i := x * f) per0; omega
    have hx : per ∣ x * f - 1 := emod_eq_iff.mp (by rw [e, Int.emod_eq_of_lt (by decide) p1])
    have hx2 : per ∣ x - u := by
      have e3 : x - u = u * (x * f - 1) - x * (u * f - 1) := by grind
      rw [e3]
      exact Int.dvd_sub (Int.dvd_trans hx (Int.dvd_mul_left _ _)) (Int.dvd_trans hf2 (Int.dvd_mul_left _ _))
    have := emod_eq_iff.mpr hx2
    rw [Int.emod_eq_of_lt x2 x1, Int.emod_eq_of_lt u2 u1] at this
    rw [this]

theorem bit_two {x y : Int} (h : x.natAbs < 2 ^ 150) (c : Nat) (hc : c ≤ 200) : CShl x (c : Int) := shl_ok (n := 150) h (by omega)
section
variable {P : Program} {w : World} {K : PySem.W.Frag} {mg : Str → Option Value} {base : Heap}
def sp_require_at_least : Sp := fun vs H Q _ => ∃ (i low : Int) (nm : V), vs = [.int i, .int low, nm] ∧ low ≤ i ∧ Q .non H
theorem ok_require_at_least (T : TX K mg) : FnOk P w K mg base CX0 3 T.f_require_at_least T.fd_require_at_least ["value", "low", "name"] sp_require_at_least := by
  refine T.F_require_at_least.ok sc_require_at_least (fun vs H Q E h => ?_) (fun cdv A outer s H vs Q E hr h => ?_)
  · obtain ⟨i, low, nm, rfl, _⟩ := h
    rfl
  · obtain ⟨i, low, nm, rfl, h, k⟩ := h
    refine ⟨_, (pss_one (ps_if (pt_not (pt_val (pe_call (ok_is_at_least T) hr rfl T.m_is_at_least T.F_is_at_least.kp T.b_is_at_least .nil pass0 (pa_cons (pv 0) (pa_cons (pv 1) pa_nil))))) pss_never pss_nil)), ?_⟩
    refine ⟨_, rfl, _, rfl, _, some i, low, rfl, rfl, _, rfl, itf ?_ k⟩
    show (!decide (low ≤ i)) = false
    rw [decide_eq_true h]
    rfl
def sp_require_place : Sp := fun vs H Q _ => ∃ (n p : Int) (nm : V), vs = [.int n, .int p, nm] ∧ 0 ≤ p ∧ p < n ∧ Q .non H
theorem ok_require_place (T : TX K mg) : FnOk P w K mg base CX0 3 T.f_require_place T.fd_require_place ["size", "place", "name"] sp_require_place := by
  refine T.F_require_place.ok sc_require_place (fun vs H Q E h => ?_) (fun cdv A outer s H vs Q E hr h => ?_)
  · obtain ⟨n, p, nm, rfl, _⟩ := h
    rfl
  · obtain ⟨n, p, nm, rfl, p0, p1, k⟩ := h
    refine ⟨_, (pss_one (ps_if (pt_not (pt_val (pe_call (ok_is_between T) hr rfl T.m_is_between T.F_is_between.kp T.b_is_between .nil pass0 (pa_cons (pv 1) (pa_cons pe_int (pa_cons (pe_op op_sub (pv 0) pe_int) pa_nil)))))) pss_never pss_nil)), ?_⟩
    refine ⟨_, rfl, _, rfl, _, _, rfl, rfl, _, some p, 0, n - 1, rfl, rfl, _, rfl, itf ?_ k⟩
    show (!(decide (0 ≤ p) && decide (p ≤ n - 1))) = false
    rw [decide_eq_true p0, decide_eq_true (by omega)]
    rfl
end

section
variable {P : Program} {w : World} {K : PySem.W.Frag} {mg : Str → Option Value} {base : Heap}
def sp_require_places : Sp := fun vs H Q _ => ∃ (n : Int) (q : Bool × Addr) (ts : List Int), vs = [.int n, .ref q.2] ∧ 1 ≤ n ∧ SqH H q (ts.map V.int) ∧ ts ≠ [] ∧ ts.length ≤ 100000 ∧ (∀ t ∈ ts, 0 ≤ t ∧ t < n) ∧ ts.Nodup ∧ ∀ H2, Ex H H2 → Q .non H2
theorem ok_require_places (T : TX K mg) : FnOk P w K mg base CX0 4 T.f_require_places T.fd_require_places ["size", "targets"] sp_require_places := by
  refine T.F_require_places.ok sc_require_places (fun vs H Q E h => ?_) (fun cdv A outer s H vs Q E hr h => ?_)
  · obtain ⟨n, q, ts, rfl, _⟩ := h
    rfl
  · obtain ⟨n, ⟨b, a⟩, ts, rfl, n1, hq, ne, lts, inr, nod, k⟩ := h
    refine ⟨_, (pss_cons (ps_expr (pe_call (ok_require_at_least T) hr rfl T.m_require_at_least T.F_require_at_least.kp T.b_require_at_least .nil pass0 (pa_cons (pv 0) (pa_cons pe_int (pa_cons pe_str pa_nil))))) (pss_cons (ps_if (PW.pt (pw_or (pt_not (pt_val (pe_callB call_isiT (by rfl) T.z_isinstance (by decide +kernel) (pa_cons (pv 1) (pa_cons (pe_tup (pa_cons (pe_bltn (v := .ty "list") rfl T.z_list (by decide +kernel) rfl) (pa_cons (pe_bltn (v := .ty "tuple") rfl T.z_tuple (by decide +kernel) rfl) pa_nil))) pa_nil))))) (pw_or1 (pt_cmpR op_eq (pe_callB call_len_seq (by rfl) T.z_len (by decide +kernel) (pa_cons (pv 1) pa_nil)) pe_int (nomark _))))) pss_never pss_nil) (pss_cons (ps_set (i := 2) sc_require_places.nd rfl (Or.inl rfl) pe_dnewK) (pss_one (ps_for PassesOwn.never rfl (CE.pi_e rfl T.z_enumerate (pa_cons (pv 1) pa_nil)) (pg_tup rfl (pgs_cons (pg_name (i := 3) sc_require_places.nd rfl (Or.inl rfl)) (pgs_cons (pg_name (i := 4) sc_require_places.nd rfl (Or.inl rfl)) pgs_nil))) (pss_cons (ps_if (PW.pt (pw_or (pt_not (pt_val (pe_call (ok_is_between T) (hr.mono (by decide)) rfl T.m_is_between T.F_is_between.kp T.b_is_between .nil pass0 (pa_cons (pv 4) (pa_cons pe_int (pa_cons (pe_op op_sub (pv 0) pe_int) pa_nil)))))) (pw_or1 (pt_cmp (pc_din (hu_of hr) (pv 4) (pv 2)))))) pss_never pss_nil) (pss_one (ps_dput (hu_of hr) (pv 2) (pv 4) (pv 3) (by rfl))))))))), ?_⟩
    refine ⟨_, rfl, n, 1, _, rfl, n1, ?_⟩
    have pos := List.length_pos_iff.mpr ne
    refine ⟨_, rfl, by show 2 ≤ sizeLine; decide, fun y hy => ?_⟩
    have q1 := hq.mono (exn (o := .tup [.ty "list", .ty "tuple"]) hy)
    refine ⟨_, y, _, _, _, true, rfl, upd_same, .cons (.ty _) (.cons (.ty _) .nil), q1.ty, kit_seq b, _, rfl, ?_⟩
    refine ⟨_, rfl, a, _, rfl, sq_or q1, rfl, _, rfl, itf (by rw [dec_int, List.length_map]; simp; exact ne) ?_⟩
    intro d hd
    have e2 := ext (exn (o := .tup [.ty "list", .ty "tuple"]) hy) (exn (o := .dK []) hd)
    have q2 := hq.mono e2
    refine ⟨_, rfl, (b, a), rfl, ⟨_, q2.sq⟩, ?_⟩
    refine for_it (CE.walk_e (xs := ts.map V.int)) (fun i σ H2 => ∃ (y3 y4 : Option V) (kvs : List (Key × V)), σ = [some (.int n), some (.ref a), some (.ref d), y3, y4] ∧ Ex H H2 ∧ H2 d = some (.dK kvs) ∧ kvs.length = i ∧ ∀ t : Int, (valV kvs (.inl t)).isSome = true → t ∈ ts.take i) ⟨_, _, [], rfl, e2, upd_same, rfl, fun t h => by simp [valV] at h⟩ (fun i σ H2 _ ⟨_, _, _, _, e, _⟩ => (hq.mono e).sq) ?_ ?_
    · rintro i x σ H2 H3 hi ⟨y3, y4, kvs, rfl, e3, hd3, lk, hv⟩ yy
      obtain ⟨Ta, x1, x2, rfl, hT, rfl, hx1, hx2⟩ := yy
      cases hx1
      obtain ⟨t, ht, rfl⟩ := map_get hx2
      obtain ⟨t0, t1⟩ := inr t (List.mem_of_getElem? ht)
      have e4 := exn (o := .tup [.int (i : Nat), .int t]) hT
      refine ⟨Ta, _, rfl, SqT.of upd_same, rfl, _, _, rfl, _, _, rfl, rfl, ?_⟩
      refine ⟨_, rfl, _, rfl, _, _, rfl, rfl, _, some t, 0, n - 1, rfl, rfl, _, rfl, itf ?_ ?_⟩
      · show (!(decide (0 ≤ t) && decide (t ≤ n - 1))) = false
        rw [decide_eq_true t0, decide_eq_true (by omega)]
        rfl
      have hno : valV kvs (.inl t) = none := by
        cases hz : valV kvs (.inl t) with
        | none => rfl
        | some v =>
          have := hv t (by rw [hz]; rfl)
          obtain ⟨j, hj⟩ := List.getElem?_of_mem this
          have hj2 := List.getElem?_eq_some_iff.mp hj
          obtain ⟨jl, je⟩ := hj2
          rw [List.length_take] at jl
          rw [List.getElem_take] at je
          obtain ⟨il, ie⟩ := List.getElem?_eq_some_iff.mp ht
          exact absurd (je.trans ie.symm) (List.pairwise_iff_getElem.mp nod j i (by omega) il (by omega))
      refine ⟨_, rfl, _, rfl, d, _, rfl, DGet.k (k := .inl t) (e4 _ _ hd3), _, rfl, itf (by rw [hno]; rfl) ?_⟩
      refine ⟨_, rfl, _, rfl, _, rfl, d, _, rfl, DPut.k (k := .inl t) (e4 _ _ hd3) ?_, ?_⟩
      · rw [lk]
        rw [List.length_map] at hi
        exact Nat.lt_of_lt_of_le hi (Nat.le_trans lts (by decide))
      · refine ⟨_, _, putK kvs (.inl t) (.int (i : Nat)), rfl, ?_, upd_same, ?_, fun u hu => ?_⟩
        · intro c o z
          rw [upd_ne (ne_of_none z (Evl.fresh_back (exn (o := .tup [.ty "list", .ty "tuple"]) hy) hd))]
          exact e4 c o (e3 c o z)
        · have hany : (kvs.any fun kv => decide (kv.1 = Sum.inl t)) = false := by rw [valV_any, hno]; rfl
          unfold putK
          rw [hany, if_neg Bool.false_ne_true, List.length_append, lk]
          rfl
        · rw [valV_put] at hu
          rw [take_more ht, List.mem_append]
          by_cases e : u = t
          · exact .inr (by rw [e]; exact List.mem_cons_self)
          · rw [if_neg (fun z => e (Sum.inl.inj z))] at hu
            exact .inl (hv u hu)
    · rintro σ H2 ⟨y3, y4, kvs, rfl, e3, _⟩
      exact k _ e3
end

/-! ### sets of places as bits -/
def rotN (n B s : Nat) : Nat := ((B <<< s) ||| ((B <<< s) >>> n)) % 2 ^ n
def dblN (n B : Nat) : Nat := (List.range n).foldl (fun acc p => if B.testBit p = true then acc ||| rotN n B p else acc) 0
def bitsN (ts : List Int) : Nat := ts.foldl (fun acc t => acc ||| 2 ^ t.toNat) 0
theorem shl_cast (B s : Nat) : (B : Int) * 2 ^ s = ((B <<< s : Nat) : Int) := by
  rw [Nat.shiftLeft_eq]
  simp
theorem shr_cast (B s : Nat) : (B : Int) / 2 ^ s = ((B >>> s : Nat) : Int) := by
  rw [Nat.shiftRight_eq_div_pow]
  simp
theorem or_cast (a b : Nat) : Builtin.bitOr (a : Int) (b : Int) = ((a ||| b : Nat) : Int) := by
  rw [bitOr_nn (Int.natCast_nonneg a) (Int.natCast_nonneg b), Int.toNat_natCast, Int.toNat_natCast]
theorem mask_cast (a n : Nat) : Builtin.bitAnd (a : Int) (2 ^ n - 1) = ((a % 2 ^ n : Nat) : Int) := by
  rw [PySem.W.kbt_mask]
  simp
theorem bit_cast (B p : Nat) : Builtin.bitAnd ((B >>> p : Nat) : Int) 1 = if B.testBit p = true then 1 else 0 := by
  rw [bitAnd_m1]
  have h := Nat.testBit_eq_decide_div_mod_eq (x := B) (i := p)
  rw [h, Nat.shiftRight_eq_div_pow]
  have : ((B / 2 ^ p : Nat) : Int) % 2 = ((B / 2 ^ p % 2 : Nat) : Int) := by simp
  rw [this]
  rcases Nat.mod_two_eq_zero_or_one (B / 2 ^ p) with z | z <;> rw [z] <;> simp
theorem rot_bit {n B s q : Nat} (hB : B < 2 ^ n) (hs : s < n) : (rotN n B s).testBit q = true ↔ q < n ∧ ∃ p, p < n ∧ B.testBit p = true ∧ (p + s) % n = q := by
  unfold rotN
  rw [Nat.testBit_mod_two_pow, Nat.testBit_or, Nat.testBit_shiftRight, Nat.testBit_shiftLeft, Nat.testBit_shiftLeft]
  have low : ∀ p, B.testBit p = true → p < n := fun p h => by
    rcases Nat.lt_or_ge p n with z | z
    · exact z
    · rw [Nat.testBit_lt_two_pow (Nat.lt_of_lt_of_le hB (Nat.pow_le_pow_right (by decide) z))] at h
      cases h
  simp only [Bool.and_eq_true, Bool.or_eq_true, decide_eq_true_eq, ge_iff_le]
  constructor
  · rintro ⟨hq, ⟨h1, h2⟩ | ⟨h1, h2⟩⟩
    · refine ⟨hq, q - s, low _ h2, h2, ?_⟩
      rw [show q - s + s = q by omega, Nat.mod_eq_of_lt hq]
    · refine ⟨hq, n + q - s, low _ h2, h2, ?_⟩
      rw [show n + q - s + s = q + n by omega, Nat.add_mod_right, Nat.mod_eq_of_lt hq]
  · rintro ⟨hq, p, hp, h1, h2⟩
    refine ⟨hq, ?_⟩
    rcases Nat.lt_or_ge (p + s) n with z | z
    · rw [Nat.mod_eq_of_lt z] at h2
      left
      refine ⟨by omega, ?_⟩
      rw [← h2, Nat.add_sub_cancel]
      exact h1
    · have e : (p + s) % n = p + s - n := by
        rw [Nat.mod_eq_sub_mod z, Nat.mod_eq_of_lt (by omega)]
      rw [e] at h2
      right
      refine ⟨by omega, ?_⟩
      rw [show n + q - s = p by omega]
      exact h1
theorem rot_lt (n B s : Nat) : rotN n B s < 2 ^ n := Nat.mod_lt _ (Nat.pow_pos (by decide))
theorem fold_or {n B : Nat} : ∀ (l : List Nat) (acc q : Nat), (l.foldl (fun acc p => if B.testBit p = true then acc ||| rotN n B p else acc) acc).testBit q = true ↔ acc.testBit q = true ∨ ∃ p ∈ l, B.testBit p = true ∧ (rotN n B p).testBit q = true
  | [], acc, q => by simp
  | p :: l, acc, q => by
    rw [List.foldl_cons, fold_or l]
    by_cases h : B.testBit p = true
    · rw [if_pos h, Nat.testBit_or, Bool.or_eq_true]
      simp only [List.mem_cons, exists_eq_or_imp, h, true_and]
      rw [or_assoc]
    · rw [if_neg h]
      simp only [List.mem_cons, exists_eq_or_imp, h]
      simp
theorem fold_lt {n B : Nat} : ∀ (l : List Nat) (acc : Nat), acc < 2 ^ n → l.foldl (fun acc p => if B.testBit p = true then acc ||| rotN n B p else acc) acc < 2 ^ n
  | [], _, h => h
  | p :: l, acc, h => by
    rw [List.foldl_cons]
    refine fold_lt l _ ?_
    split
    · exact Nat.or_lt_two_pow h (rot_lt n B p)
    · exact h
theorem dbl_lt (n B : Nat) : dblN n B < 2 ^ n := fold_lt _ _ (Nat.pow_pos (by decide))
theorem dbl_bit {n B q : Nat} (hB : B < 2 ^ n) : (dblN n B).testBit q = true ↔ q < n ∧ ∃ a b, a < n ∧ b < n ∧ B.testBit a = true ∧ B.testBit b = true ∧ (a + b) % n = q := by
  unfold dblN
  rw [fold_or]
  constructor
  · rintro (h | ⟨p, hp, h1, h2⟩)
    · simp at h
    · rw [List.mem_range] at hp
      obtain ⟨hq, a, ha, h3, h4⟩ := (rot_bit hB hp).mp h2
      exact ⟨hq, a, p, ha, hp, h3, h1, h4⟩
  · rintro ⟨hq, a, b, ha, hb, h1, h2, h3⟩
    exact .inr ⟨b, List.mem_range.mpr hb, h2, (rot_bit hB hb).mpr ⟨hq, a, ha, h1, h3⟩⟩
theorem bits_fold : ∀ (ts : List Int) (acc q : Nat), (ts.foldl (fun acc t => acc ||| 2 ^ t.toNat) acc).testBit q = true ↔ acc.testBit q = true ∨ ∃ t ∈ ts, t.toNat = q
  | [], acc, q => by simp
  | t :: ts, acc, q => by
    rw [List.foldl_cons, bits_fold ts, Nat.testBit_or, Bool.or_eq_true, Nat.testBit_two_pow]
    simp only [List.mem_cons, exists_eq_or_imp, decide_eq_true_eq]
    rw [or_assoc]
theorem bits_bit {ts : List Int} {q : Nat} : (bitsN ts).testBit q = true ↔ ∃ t ∈ ts, t.toNat = q := by
  unfold bitsN
  rw [bits_fold]
  simp
theorem bits_lt' {n : Nat} : ∀ (ts : List Int) (acc : Nat), (∀ t ∈ ts, t.toNat < n) → acc < 2 ^ n → ts.foldl (fun acc t => acc ||| 2 ^ t.toNat) acc < 2 ^ n
  | [], _, _, h => h
  | t :: ts, acc, hl, h => by
    rw [List.foldl_cons]
    exact bits_lt' ts _ (fun u hu => hl u (List.mem_cons_of_mem _ hu)) (Nat.or_lt_two_pow h (Nat.pow_lt_pow_right (by decide) (hl t List.mem_cons_self)))
theorem bits_lt {n : Nat} {ts : List Int} (h : ∀ t ∈ ts, t.toNat < n) : bitsN ts < 2 ^ n := bits_lt' ts 0 h (Nat.pow_pos (by decide))
theorem bits_snoc (ts : List Int) (t : Int) : bitsN (ts ++ [t]) = bitsN ts ||| 2 ^ t.toNat := by
  unfold bitsN
  rw [List.foldl_append]
  rfl
/-- sums of 2 ^ c targets -/
def layN (n : Nat) (ts : List Int) : Nat → Nat
  | 0 => bitsN ts
  | c + 1 => dblN n (layN n ts c)
theorem lay_lt {n : Nat} {ts : List Int} (h : ∀ t ∈ ts, 0 ≤ t ∧ t < (n : Int)) : ∀ c, layN n ts c < 2 ^ n
  | 0 => bits_lt fun t ht => by have := h t ht; omega
  | c + 1 => dbl_lt n _

theorem shlN {B s k : Nat} (h : B < 2 ^ k) (hk : k + s ≤ 100000000) : CShl (B : Int) (s : Int) := shl_ok (n := k) (by rw [Int.natAbs_natCast]; exact h) (by omega)
theorem atI_fin {α : Type} (ys : List α) (v : α) : atI (ys ++ [v]) (-1) = some v := by
  unfold atI ixN
  rw [if_neg (by decide), if_pos (by rw [List.length_append, List.length_singleton]; omega), List.length_append, List.length_singleton]
  have : ((-1 : Int) + ((ys.length + 1 : Nat) : Int)).toNat = ys.length := by omega
  show (ys ++ [v])[((-1 : Int) + ((ys.length + 1 : Nat) : Int)).toNat]? = some v
  rw [this, List.getElem?_append_right (Nat.le_refl _), Nat.sub_self]
  rfl
section
variable {P : Program} {w : World} {K : PySem.W.Frag} {mg : Str → Option Value} {base : Heap}
end

def oddN (n : Nat) : Nat := if h : 0 < n ∧ n % 2 = 0 then oddN (n / 2) else n
termination_by n
decreasing_by omega
theorem odd_eq (n : Nat) : oddN n = if 0 < n ∧ n % 2 = 0 then oddN (n / 2) else n := by
  rw [oddN]
  split <;> rfl
theorem odd_ok : ∀ (m n : Nat), n ≤ m → 0 < n → (∃ k, n = 2 ^ k * oddN n) ∧ oddN n % 2 = 1 ∧ 0 < oddN n ∧ oddN n ≤ n
  | 0, n, h, p => by omega
  | m + 1, n, h, p => by
    rw [odd_eq]
    by_cases e : 0 < n ∧ n % 2 = 0
    · rw [if_pos e]
      obtain ⟨⟨k, hk⟩, a, b, c⟩ := odd_ok m (n / 2) (by omega) (by omega)
      refine ⟨⟨k + 1, ?_⟩, a, b, by omega⟩
      rw [Nat.pow_succ, Nat.mul_comm (2 ^ k), Nat.mul_assoc, ← hk]
      omega
    · rw [if_neg e]
      exact ⟨⟨0, by simp⟩, by omega, p, Nat.le_refl _⟩
def oddI (n : Int) : Int := (oddN n.toNat : Nat)
theorem pow2_inj : ∀ (k j : Nat) (a b : Int), a % 2 = 1 → b % 2 = 1 → 2 ^ k * a = 2 ^ j * b → a = b
  | 0, 0, a, b, _, _, h => by simpa using h
  | 0, j + 1, a, b, ha, _, h => by
    rw [Int.pow_succ, Int.mul_comm ((2 : Int) ^ j), Int.mul_assoc] at h
    simp at h
    omega
  | k + 1, 0, a, b, _, hb, h => by
    rw [Int.pow_succ, Int.mul_comm ((2 : Int) ^ k), Int.mul_assoc] at h
    simp at h
    omega
  | k + 1, j + 1, a, b, ha, hb, h => by
    rw [Int.pow_succ, Int.pow_succ, Int.mul_comm ((2 : Int) ^ k), Int.mul_comm ((2 : Int) ^ j), Int.mul_assoc, Int.mul_assoc] at h
    exact pow2_inj k j a b ha hb (by omega)
theorem oddI_ok {n : Int} (h : 1 ≤ n) : (∃ k : Nat, n = 2 ^ k * oddI n) ∧ oddI n % 2 = 1 ∧ 0 < oddI n ∧ oddI n ≤ n := by
  obtain ⟨⟨k, hk⟩, a, b, c⟩ := odd_ok n.toNat n.toNat (Nat.le_refl _) (by omega)
  refine ⟨⟨k, ?_⟩, by unfold oddI; omega, by unfold oddI; omega, by unfold oddI; omega⟩
  have : (n.toNat : Int) = ((2 ^ k * oddN n.toNat : Nat) : Int) := congrArg Nat.cast hk
  rw [Int.natCast_mul, Int.natCast_pow] at this
  unfold oddI
  rw [← show ((2 : Nat) : Int) = 2 from rfl, ← this]
  omega
theorem oddI_uniq {n o : Int} {k : Nat} (h : 1 ≤ n) (e : n = 2 ^ k * o) (ho : o % 2 = 1) : o = oddI n := by
  obtain ⟨⟨j, hj⟩, a, _, _⟩ := oddI_ok h
  exact pow2_inj k j o (oddI n) ho a (by rw [← e, ← hj])
theorem odd_pow2 {o x : Int} (h : o % 2 = 1) : ∀ k : Nat, o ∣ 2 ^ k * x → o ∣ x
  | 0, d => by simpa using d
  | k + 1, d => by
    refine odd_pow2 h k ?_
    rw [Int.pow_succ, Int.mul_comm ((2 : Int) ^ k), Int.mul_assoc] at d
    obtain ⟨c, hc⟩ := d
    refine ⟨2 ^ k * x - c * (o / 2), ?_⟩
    have e : o = 2 * (o / 2) + 1 := by omega
    generalize o / 2 = q at *
    subst e
    grind
theorem odd_dvd {n : Int} (h : 1 ≤ n) : oddI n ∣ n := by
  obtain ⟨⟨k, hk⟩, _⟩ := oddI_ok h
  conv => rhs; rw [hk]
  exact Int.dvd_mul_left _ _
theorem emod_dvd (a n : Int) : n ∣ a % n - a := ⟨-(a / n), by have := Int.mul_ediv_add_emod a n; grind⟩
theorem nodup_maps {α β : Type} {f : α → β} {l : List α} (hf : ∀ a ∈ l, ∀ b ∈ l, f a = f b → a = b) (h : l.Nodup) : (l.map f).Nodup := by
  induction l with
  | nil => simp
  | cons x l ih =>
    rw [List.nodup_cons] at h
    rw [List.map_cons, List.nodup_cons]
    refine ⟨fun hm => ?_, ih (fun a ha b hb => hf a (List.mem_cons_of_mem _ ha) b (List.mem_cons_of_mem _ hb)) h.2⟩
    obtain ⟨y, hy, e⟩ := List.mem_map.mp hm
    exact h.1 (hf y (List.mem_cons_of_mem _ hy) x List.mem_cons_self e ▸ hy)
def gcdL (n g0 : Int) (gs : List Int) : Int := gs.foldl (fun s g => gcdI s (g - g0)) n
theorem gcdI_dvd {x a b : Int} : x ∣ gcdI a b ↔ x ∣ a ∧ x ∣ b := by
  show x ∣ ((Int.gcd a b : Nat) : Int) ↔ _
  exact Int.dvd_coe_gcd_iff
theorem gcdL_dvd {x : Int} : ∀ {gs : List Int} {n g0 : Int}, x ∣ gcdL n g0 gs ↔ x ∣ n ∧ ∀ g ∈ gs, x ∣ g - g0
  | [], n, g0 => by simp [gcdL]
  | g :: gs, n, g0 => by
    show x ∣ gcdL (gcdI n (g - g0)) g0 gs ↔ _
    rw [gcdL_dvd, gcdI_dvd, List.forall_mem_cons, and_assoc]
theorem gcdL_pos : ∀ {gs : List Int} {n g0 : Int}, 1 ≤ n → 1 ≤ gcdL n g0 gs ∧ gcdL n g0 gs ≤ n
  | [], n, g0, h => ⟨h, Int.le_refl _⟩
  | g :: gs, n, g0, h => by
    show 1 ≤ gcdL (gcdI n (g - g0)) g0 gs ∧ gcdL (gcdI n (g - g0)) g0 gs ≤ n
    have p : 0 < Int.gcd n (g - g0) := Int.gcd_pos_of_ne_zero_left _ (by omega)
    have l : gcdI n (g - g0) ≤ n := Int.le_of_dvd (by omega) (Int.gcd_dvd_left _ _)
    have p2 : 1 ≤ gcdI n (g - g0) := by show (1 : Int) ≤ ((Int.gcd n (g - g0) : Nat) : Int); omega
    obtain ⟨a, b⟩ := gcdL_pos (gs := gs) (g0 := g0) p2
    exact ⟨a, Int.le_trans b l⟩
theorem in_ints (x : Int) (l : List Int) : inV (V.int x) (l.map V.int) = decide (x ∈ l) := by
  rw [Bool.eq_iff_iff, decide_eq_true_eq]
  unfold inV
  rw [List.any_map, List.any_eq_true]
  constructor
  · rintro ⟨y, hy, h⟩
    have h2 : y = x := by simpa [eqV] using h
    rw [← h2]
    exact hy
  · intro h
    exact ⟨x, h, by simp [eqV]⟩
theorem flat_ints (l : List Int) : (l.map V.int).all flatV = true := by
  rw [List.all_map, List.all_eq_true]
  exact fun x _ => rfl
theorem bez : ∀ (b a : Nat), ∃ x y : Int, (a : Int) * x + (b : Int) * y = ((Nat.gcd a b : Nat) : Int) := by
  intro b
  induction b using Nat.strongRecOn with
  | ind b ih =>
    intro a
    by_cases h : b = 0
    · subst h
      exact ⟨1, 0, by simp⟩
    · obtain ⟨x, y, e⟩ := ih (a % b) (Nat.mod_lt _ (by omega)) b
      refine ⟨y, x - (a / b : Nat) * y, ?_⟩
      rw [Nat.gcd_comm a b, Nat.gcd_rec b a, Nat.gcd_comm (a % b) b, ← e]
      have d : (a : Int) = (b : Int) * (a / b : Nat) + (a % b : Nat) := by
        have := Nat.div_add_mod a b
        rw [← Int.natCast_mul, ← Int.natCast_add, this]
      generalize ((a / b : Nat) : Int) = q at *
      generalize ((a % b : Nat) : Int) = r at *
      rw [d]
      grind
theorem inv_ex {u n : Int} (h0 : 0 ≤ u) (h1 : 0 ≤ n) (h : gcdI u n = 1) : ∃ v, n ∣ u * v - 1 := by
  obtain ⟨x, y, e⟩ := bez n.toNat u.toNat
  have g : Nat.gcd u.toNat n.toNat = 1 := by
    have h2 : Int.gcd u n = 1 := by
      have : ((Int.gcd u n : Nat) : Int) = 1 := h
      omega
    rw [← h2]
    show _ = Nat.gcd u.natAbs n.natAbs
    congr 1 <;> omega
  rw [g, Int.toNat_of_nonneg h0, Int.toNat_of_nonneg h1] at e
  exact ⟨x, -y, by have e2 : u * x + n * y = 1 := e; grind⟩

/-! ### sums of targets on a ring: plain -/
def SumsTo (ts : List Int) (k : Nat) (v : Int) : Prop := ∃ l : List Int, l.length = k ∧ (∀ x ∈ l, x ∈ ts) ∧ l.sum = v
/-- 2 ** c times the place is a sum of 2 ** c targets -/
def Hit (n : Int) (ts : List Int) (p : Int) (c : Nat) : Prop := ∃ v, SumsTo ts (2 ^ c) v ∧ n ∣ v - 2 ^ c * p
theorem SumsTo.add {ts : List Int} {a b : Nat} {u v : Int} (h : SumsTo ts a u) (g : SumsTo ts b v) : SumsTo ts (a + b) (u + v) := by
  obtain ⟨l, h1, h2, h3⟩ := h
  obtain ⟨m, g1, g2, g3⟩ := g
  exact ⟨l ++ m, by rw [List.length_append, h1, g1], fun x hx => (List.mem_append.mp hx).elim (h2 x) (g2 x), by rw [List.sum_append, h3, g3]⟩
theorem SumsTo.split {ts : List Int} {a b : Nat} {v : Int} (h : SumsTo ts (a + b) v) : ∃ u w, SumsTo ts a u ∧ SumsTo ts b w ∧ u + w = v := by
  obtain ⟨l, h1, h2, h3⟩ := h
  refine ⟨_, _, ⟨l.take a, by rw [List.length_take]; omega, fun x hx => h2 x (List.mem_of_mem_take hx), rfl⟩, ⟨l.drop a, by rw [List.length_drop]; omega, fun x hx => h2 x (List.mem_of_mem_drop hx), rfl⟩, ?_⟩
  rw [← List.sum_append, List.take_append_drop, h3]
theorem Hit.next {n p : Int} {ts : List Int} {c : Nat} (h : Hit n ts p c) : Hit n ts p (c + 1) := by
  obtain ⟨v, h1, h2⟩ := h
  refine ⟨v + v, by rw [Nat.pow_succ, Nat.mul_two]; exact h1.add h1, ?_⟩
  have := Int.dvd_add h2 h2
  refine (congrArg (n ∣ ·) ?_).mp this
  rw [Int.pow_succ]
  grind
theorem Hit.up {n p : Int} {ts : List Int} {c : Nat} (h : Hit n ts p c) : ∀ d, c ≤ d → Hit n ts p d := by
  intro d hd
  obtain ⟨e, rfl⟩ : ∃ e, d = c + e := ⟨d - c, by omega⟩
  clear hd
  induction e with
  | zero => exact h
  | succ e ih => exact ih.next
theorem lay_hit {n : Nat} (hn : 0 < n) {ts : List Int} (inr : ∀ t ∈ ts, 0 ≤ t ∧ t < (n : Int)) : ∀ (c q : Nat), (layN n ts c).testBit q = true ↔ q < n ∧ ∃ v, SumsTo ts (2 ^ c) v ∧ v % n = q
  | 0, q => by
    show (bitsN ts).testBit q = true ↔ _
    rw [bits_bit]
    constructor
    · rintro ⟨t, ht, e⟩
      obtain ⟨t0, t1⟩ := inr t ht
      exact ⟨by omega, t, ⟨[t], rfl, by simpa using ht, by simp⟩, by rw [Int.emod_eq_of_lt t0 t1]; omega⟩
    · rintro ⟨hq, v, ⟨l, h1, h2, h3⟩, e⟩
      match l, h1 with
      | [t], _ =>
        have ht := h2 t List.mem_cons_self
        obtain ⟨t0, t1⟩ := inr t ht
        have : v = t := by rw [← h3]; simp
        subst this
        rw [Int.emod_eq_of_lt t0 t1] at e
        exact ⟨v, ht, by omega⟩
  | c + 1, q => by
    show (dblN n (layN n ts c)).testBit q = true ↔ _
    rw [dbl_bit (lay_lt inr c)]
    constructor
    · rintro ⟨hq, a, b, ha, hb, ta, tb, e⟩
      obtain ⟨_, u, hu, eu⟩ := (lay_hit hn inr c a).mp ta
      obtain ⟨_, w, hw, ew⟩ := (lay_hit hn inr c b).mp tb
      refine ⟨hq, u + w, by rw [Nat.pow_succ, Nat.mul_two]; exact hu.add hw, ?_⟩
      rw [Int.add_emod, eu, ew, ← e]
      simp
    · rintro ⟨hq, v, hv, e⟩
      rw [Nat.pow_succ, Nat.mul_two] at hv
      obtain ⟨u, w, hu, hw, rfl⟩ := hv.split
      have n0 : (0 : Int) < n := by omega
      have u0 := Int.emod_nonneg u (show (n : Int) ≠ 0 by omega)
      have u1 := Int.emod_lt_of_pos u n0
      have w0 := Int.emod_nonneg w (show (n : Int) ≠ 0 by omega)
      have w1 := Int.emod_lt_of_pos w n0
      refine ⟨hq, (u % n).toNat, (w % n).toNat, by omega, by omega, (lay_hit hn inr c _).mpr ⟨by omega, u, hu, by omega⟩, (lay_hit hn inr c _).mpr ⟨by omega, w, hw, by omega⟩, ?_⟩
      have e2 : (((u % n).toNat + (w % n).toNat : Nat) : Int) % n = q := by
        rw [Int.natCast_add, Int.toNat_of_nonneg u0, Int.toNat_of_nonneg w0, ← Int.add_emod]
        exact e
      omega
theorem bit_hit {n p c : Nat} {ts : List Int} (hp : p < n) (inr : ∀ t ∈ ts, 0 ≤ t ∧ t < (n : Int)) : (layN n ts c).testBit (p * 2 ^ c % n) = true ↔ Hit n ts p c := by
  have hn : 0 < n := by omega
  rw [lay_hit hn inr]
  constructor
  · rintro ⟨_, v, hv, e⟩
    refine ⟨v, hv, emod_eq_iff.mp ?_⟩
    rw [e, Int.natCast_emod, Int.natCast_mul, Int.natCast_pow, Int.mul_comm]
    rfl
  · rintro ⟨v, hv, d⟩
    refine ⟨Nat.mod_lt _ hn, v, hv, ?_⟩
    rw [emod_eq_iff.mpr d, Int.natCast_emod, Int.natCast_mul, Int.natCast_pow, Int.mul_comm]
    rfl
/-- the least number of calls, at most B -/
def MinC (n : Int) (ts : List Int) (p : Int) (B : Nat) : Option Nat → Prop
  | some c => c ≤ B ∧ Hit n ts p c ∧ ∀ d, d < c → ¬ Hit n ts p d
  | none => ∀ d, d ≤ B → ¬ Hit n ts p d
theorem MinC.le {n p m q : Int} {ts us : List Int} {B C : Nat} {o u : Option Nat} (h : MinC n ts p B o) (g : MinC m us q C u) (e : ∀ c, Hit n ts p c → ∃ d, d ≤ c ∧ d ≤ C ∧ Hit m us q d) : ∀ c, o = some c → ∃ d, u = some d ∧ d ≤ c := by
  rintro c rfl
  obtain ⟨d, d1, d2, d3⟩ := e c h.2.1
  cases u with
  | none => exact absurd d3 (g d d2)
  | some f =>
    refine ⟨f, rfl, ?_⟩
    by_cases q : f ≤ d
    · omega
    · exact absurd d3 (g.2.2 d (by omega))
theorem MinC.same {n p m q : Int} {ts us : List Int} {B C : Nat} {o u : Option Nat} (h : MinC n ts p B o) (g : MinC m us q C u) (e1 : ∀ c, Hit n ts p c → ∃ d, d ≤ c ∧ d ≤ C ∧ Hit m us q d) (e2 : ∀ c, Hit m us q c → ∃ d, d ≤ c ∧ d ≤ B ∧ Hit n ts p d) : o = u := by
  cases o with
  | none =>
    cases u with
    | none => rfl
    | some d =>
      obtain ⟨f, hf, _⟩ := MinC.le g h e2 d rfl
      cases hf
  | some c =>
    obtain ⟨d, hd, d1⟩ := MinC.le h g e1 c rfl
    subst hd
    obtain ⟨f, hf, f1⟩ := MinC.le g h e2 d rfl
    cases hf
    congr 1
    omega
/-! ### the bound -/
def Rep (n : Int) (us : List Int) (x : Int) : Prop := ∃ l : List Int, (∀ y ∈ l, y ∈ us) ∧ n ∣ l.sum - x
theorem Rep.add {n x y : Int} {us : List Int} (h : Rep n us x) (g : Rep n us y) : Rep n us (x + y) := by
  obtain ⟨l, h1, h2⟩ := h
  obtain ⟨m, g1, g2⟩ := g
  refine ⟨l ++ m, fun z hz => (List.mem_append.mp hz).elim (h1 z) (g1 z), ?_⟩
  rw [List.sum_append]
  exact (congrArg (n ∣ ·) (by omega)).mp (Int.dvd_add h2 g2)
theorem Rep.zero {n : Int} {us : List Int} : Rep n us 0 := ⟨[], by simp, by simp⟩
theorem Rep.of {n x y : Int} {us : List Int} (h : Rep n us x) (e : n ∣ x - y) : Rep n us y := by
  obtain ⟨l, h1, h2⟩ := h
  exact ⟨l, h1, (congrArg (n ∣ ·) (by omega)).mp (Int.dvd_add h2 e)⟩
theorem Rep.nsmul {n x : Int} {us : List Int} (h : Rep n us x) : ∀ k : Nat, Rep n us ((k : Int) * x)
  | 0 => by simpa using Rep.zero
  | k + 1 => by
    have := (h.nsmul k).add h
    rwa [show ((k : Int) * x + x) = ((k + 1 : Nat) : Int) * x by rw [Int.natCast_add]; grind] at this
theorem Rep.mul {n x : Int} {us : List Int} (hn : 0 < n) (h : Rep n us x) (k : Int) : Rep n us (k * x) := by
  refine (h.nsmul (k % n).toNat).of ?_
  rw [Int.toNat_of_nonneg (Int.emod_nonneg _ (by omega))]
  have : n ∣ (k % n - k) * x := Int.dvd_mul_of_dvd_left (emod_dvd k n)
  exact (congrArg (n ∣ ·) (by grind)).mp this
theorem Rep.gcd {n x y : Int} {us : List Int} (hn : 0 < n) (h : Rep n us x) (g : Rep n us y) : Rep n us (gcdI x y) := by
  obtain ⟨a, b, e⟩ := bez y.natAbs x.natAbs
  have hx : ∃ c : Int, (x.natAbs : Int) = c * x := by
    by_cases q : 0 ≤ x
    · exact ⟨1, by omega⟩
    · exact ⟨-1, by omega⟩
  have hy : ∃ c : Int, (y.natAbs : Int) = c * y := by
    by_cases q : 0 ≤ y
    · exact ⟨1, by omega⟩
    · exact ⟨-1, by omega⟩
  obtain ⟨c, hc⟩ := hx
  obtain ⟨d, hd⟩ := hy
  rw [hc, hd] at e
  have := (h.mul hn (c * a)).add (g.mul hn (d * b))
  rw [show c * a * x + d * b * y = ((Nat.gcd x.natAbs y.natAbs : Nat) : Int) by rw [← e]; grind] at this
  exact this
theorem Rep.gcdL {n t0 : Int} {us : List Int} (hn : 0 < n) : ∀ {ts : List Int} {s : Int}, Rep n us s → (∀ t ∈ ts, Rep n us (t - t0)) → Rep n us (gcdL s t0 ts)
  | [], _, h, _ => h
  | t :: ts, s, h, g => by
    show Rep n us (CS.gcdL (gcdI s (t - t0)) t0 ts)
    exact Rep.gcdL hn (h.gcd hn (g t List.mem_cons_self)) fun x hx => g x (List.mem_cons_of_mem _ hx)
/-- prefixes -/
theorem rep_short {n x : Int} {us : List Int} (hn : 0 < n) (h : Rep n us x) : ∃ l : List Int, (∀ y ∈ l, y ∈ us) ∧ n ∣ l.sum - x ∧ l.length < n.toNat := by
  obtain ⟨l, h1, h2⟩ := h
  obtain ⟨m, hm⟩ : ∃ m, m = l.length := ⟨_, rfl⟩
  induction m using Nat.strongRecOn generalizing l with
  | ind m ih =>
    by_cases hl : l.length < n.toNat
    · exact ⟨l, h1, h2, hl⟩
    · -- two prefixes agree
      have key : ∃ i j, i < j ∧ j ≤ l.length ∧ n ∣ (l.take j).sum - (l.take i).sum := by
        refine Classical.byContradiction fun no => ?_
        have nod : ((List.range (l.length + 1)).map fun i => ((l.take i).sum % n).toNat).Nodup := by
          refine nodup_maps (fun a ha b hb e => ?_) List.nodup_range
          have a0 := Int.emod_nonneg (l.take a).sum (show n ≠ 0 by omega)
          have b0 := Int.emod_nonneg (l.take b).sum (show n ≠ 0 by omega)
          have e2 : (l.take a).sum % n = (l.take b).sum % n := by omega
          have al := List.mem_range.mp ha
          have bl := List.mem_range.mp hb
          by_cases q : a = b
          · exact q
          · exfalso
            by_cases q2 : a < b
            · exact no ⟨a, b, q2, by omega, emod_eq_iff.mp e2.symm⟩
            · exact no ⟨b, a, by omega, by omega, emod_eq_iff.mp e2⟩
        have := nod.length_le_of_subset (l₂ := List.range n.toNat) fun x hx => by
          obtain ⟨i, _, rfl⟩ := List.mem_map.mp hx
          have i0 := Int.emod_nonneg (l.take i).sum (show n ≠ 0 by omega)
          have i1 := Int.emod_lt_of_pos (l.take i).sum hn
          exact List.mem_range.mpr (by omega)
        rw [List.length_map, List.length_range, List.length_range] at this
        omega
      obtain ⟨i, j, ij, jl, d⟩ := key
      have len : (l.take i ++ l.drop j).length < m := by
        rw [List.length_append, List.length_take, List.length_drop, hm]
        omega
      refine ih _ len (l.take i ++ l.drop j) (fun y hy => ?_) ?_ rfl
      · rcases List.mem_append.mp hy with h | h
        · exact h1 y (List.mem_of_mem_take h)
        · exact h1 y (List.mem_of_mem_drop h)
      · have e : l.sum = (l.take j).sum + (l.drop j).sum := by rw [← List.sum_append, List.take_append_drop]
        rw [List.sum_append]
        have := Int.dvd_sub h2 d
        exact (congrArg (n ∣ ·) (by omega)).mp this
theorem sum_shift {t0 : Int} : ∀ l : List Int, (l.map fun x => x - t0).sum = l.sum - l.length * t0
  | [] => by simp
  | x :: l => by
    rw [List.map_cons, List.sum_cons, List.sum_cons, sum_shift l, List.length_cons, Int.natCast_add]
    grind
theorem sum_pad {t0 : Int} (k : Nat) : (List.replicate k t0).sum = k * t0 := by
  induction k with
  | zero => simp
  | succ k ih =>
    rw [List.replicate_succ, List.sum_cons, ih, Int.natCast_add]
    grind
theorem hit_bound {n p t0 : Int} {ts : List Int} {C : Nat} (hn : 0 < n) (ht : t0 ∈ ts) (hC : n < 2 ^ C) {c : Nat} (h : Hit n ts p c) : Hit n ts p C := by
  obtain ⟨v, ⟨l, l1, l2, l3⟩, d⟩ := h
  obtain ⟨G1, Gn⟩ := gcdL_pos (gs := ts) (g0 := t0) (show 1 ≤ n by omega)
  obtain ⟨dn, dts⟩ := (gcdL_dvd (gs := ts) (n := n) (g0 := t0)).mp (Int.dvd_refl _)
  have rep : Rep n (ts.map fun t => t - t0) (gcdL n t0 ts) := Rep.gcdL hn (Rep.zero.of (by simp)) fun t h => ⟨[t - t0], fun y hy => by rw [List.mem_singleton.mp hy]; exact List.mem_map.mpr ⟨t, h, rfl⟩, by simp⟩
  obtain ⟨⟨k, hk⟩, o1, o2, _⟩ := oddI_ok G1
  -- the gcd divides 2^c (p - t0)
  have dg : gcdL n t0 ts ∣ 2 ^ c * (p - t0) := by
    have q1 : gcdL n t0 ts ∣ (l.map fun x => x - t0).sum := by
      clear l1 l3 d
      induction l with
      | nil => simp
      | cons x l ih =>
        rw [List.map_cons, List.sum_cons]
        exact Int.dvd_add (dts x (l2 x List.mem_cons_self)) (ih fun y hy => l2 y (List.mem_cons_of_mem _ hy))
    rw [sum_shift, l3, l1, Int.natCast_pow] at q1
    have q2 := Int.dvd_trans dn d
    have := Int.dvd_sub q1 q2
    refine (congrArg (gcdL n t0 ts ∣ ·) ?_).mp this
    have e2 : ((2 : Nat) : Int) = 2 := rfl
    rw [e2]
    grind
  have dO : oddI (gcdL n t0 ts) ∣ p - t0 := by
    refine odd_pow2 o1 c (Int.dvd_trans ?_ dg)
    exact odd_dvd G1
  have kC : k ≤ C := by
    by_cases q : k ≤ C
    · exact q
    · exfalso
      have h1 : (2 : Int) ^ C ≤ 2 ^ k := by
        have : (2 : Nat) ^ C ≤ 2 ^ k := Nat.pow_le_pow_right (by decide) (by omega)
        exact_mod_cast this
      have h2 : (2 : Int) ^ k * 1 ≤ 2 ^ k * oddI (gcdL n t0 ts) := Int.mul_le_mul_of_nonneg_left (by omega) (by have := pow2_pos k; omega)
      rw [← hk] at h2
      omega
  have dC : gcdL n t0 ts ∣ 2 ^ C * (p - t0) := by
    rw [hk]
    refine Int.mul_dvd_mul ?_ dO
    exact ⟨2 ^ (C - k), by rw [← Int.pow_add]; congr 1; omega⟩
  obtain ⟨z, hz⟩ := dC
  have rep2 : Rep n (ts.map fun t => t - t0) (2 ^ C * (p - t0)) := by
    rw [hz, Int.mul_comm]
    exact rep.mul hn z
  obtain ⟨m, m1, m2, m3⟩ := rep_short hn rep2
  -- padded by the first target
  have mC : m.length ≤ 2 ^ C := by
    have : ((2 ^ C : Nat) : Int) = (2 : Int) ^ C := by simp
    omega
  refine ⟨_, ⟨(m.map fun x => x + t0) ++ List.replicate (2 ^ C - m.length) t0, ?_, fun x hx => ?_, rfl⟩, ?_⟩
  · rw [List.length_append, List.length_map, List.length_replicate]
    omega
  · rcases List.mem_append.mp hx with h | h
    · obtain ⟨y, hy, rfl⟩ := List.mem_map.mp h
      obtain ⟨t, ht2, rfl⟩ := List.mem_map.mp (m1 y hy)
      rw [show t - t0 + t0 = t by omega]
      exact ht2
    · rw [(List.mem_replicate.mp h).2]
      exact ht
  · rw [List.sum_append, sum_pad]
    have e1 : (m.map fun x => x + t0).sum = m.sum + m.length * t0 := by
      have := sum_shift (t0 := -t0) m
      rw [show (fun x : Int => x - -t0) = fun x => x + t0 from funext fun x => by omega] at this
      rw [this]
      grind
    rw [e1]
    refine (congrArg (n ∣ ·) ?_).mp m2
    have e2 : ((2 ^ C - m.length : Nat) : Int) = 2 ^ C - m.length := by
      have : ((2 ^ C : Nat) : Int) = (2 : Int) ^ C := by simp
      omega
    rw [e2]
    grind

theorem sums_map {m u s : Int} {ts us : List Int} (h : ∀ t ∈ ts, ∃ t' ∈ us, m ∣ t' - (u * t + s)) : ∀ l : List Int, (∀ x ∈ l, x ∈ ts) → ∃ l' : List Int, l'.length = l.length ∧ (∀ x ∈ l', x ∈ us) ∧ m ∣ l'.sum - (u * l.sum + l.length * s)
  | [], _ => ⟨[], rfl, by simp, by simp⟩
  | x :: l, hl => by
    obtain ⟨l', h1, h2, h3⟩ := sums_map h l fun y hy => hl y (List.mem_cons_of_mem _ hy)
    obtain ⟨t', t1, t2⟩ := h x (hl x List.mem_cons_self)
    refine ⟨t' :: l', by simp [h1], fun y hy => ?_, ?_⟩
    · rcases List.mem_cons.mp hy with rfl | hy
      · exact t1
      · exact h2 y hy
    · rw [List.sum_cons, List.sum_cons, List.length_cons, Int.natCast_add]
      have := Int.dvd_add t2 h3
      exact (congrArg (m ∣ ·) (by grind)).mp this
theorem hit_map {n m p q u s : Int} {ts us : List Int} {c : Nat} (hn : ∀ x, n ∣ x → m ∣ u * x) (ht : ∀ t ∈ ts, ∃ t' ∈ us, m ∣ t' - (u * t + s)) (hp : m ∣ q - (u * p + s)) (h : Hit n ts p c) : Hit m us q c := by
  obtain ⟨v, ⟨l, l1, l2, l3⟩, d⟩ := h
  obtain ⟨l', h1, h2, h3⟩ := sums_map ht l l2
  refine ⟨l'.sum, ⟨l', by rw [h1, l1], h2, rfl⟩, ?_⟩
  rw [l3, l1, Int.natCast_pow] at h3
  have e2 : ((2 : Nat) : Int) = 2 := rfl
  rw [e2] at h3
  have a := hn _ d
  have b : m ∣ 2 ^ c * (q - (u * p + s)) := Int.dvd_mul_of_dvd_right hp
  have := Int.dvd_sub (Int.dvd_add h3 a) b
  exact (congrArg (m ∣ ·) (by grind)).mp this
theorem hit_mul {n p k : Int} {ts : List Int} {c : Nat} (hk : 0 < k) : Hit (n * k) (ts.map fun t => t * k) (p * k) c ↔ Hit n ts p c := by
  constructor
  · rintro ⟨v, ⟨l, l1, l2, l3⟩, d⟩
    have key : ∀ l : List Int, (∀ x ∈ l, x ∈ ts.map fun t => t * k) → ∃ l' : List Int, l'.length = l.length ∧ (∀ x ∈ l', x ∈ ts) ∧ l.sum = l'.sum * k := by
      intro l
      induction l with
      | nil => exact fun _ => ⟨[], rfl, by simp, by simp⟩
      | cons x l ih =>
        intro hl
        obtain ⟨l', h1, h2, h3⟩ := ih fun y hy => hl y (List.mem_cons_of_mem _ hy)
        obtain ⟨t, ht, rfl⟩ := List.mem_map.mp (hl x List.mem_cons_self)
        refine ⟨t :: l', by simp [h1], fun y hy => ?_, ?_⟩
        · rcases List.mem_cons.mp hy with rfl | hy
          · exact ht
          · exact h2 y hy
        · rw [List.sum_cons, List.sum_cons, h3]
          grind
    obtain ⟨l', h1, h2, h3⟩ := key l l2
    refine ⟨l'.sum, ⟨l', by rw [h1, l1], h2, rfl⟩, ?_⟩
    rw [← l3, h3] at d
    have e : l'.sum * k - 2 ^ c * (p * k) = (l'.sum - 2 ^ c * p) * k := by grind
    rw [e] at d
    exact Int.dvd_of_mul_dvd_mul_right (by omega) d
  · intro h
    refine hit_map (u := k) (s := 0) (fun x hx => ?_) (fun t ht => ⟨t * k, List.mem_map.mpr ⟨t, ht, rfl⟩, ⟨0, by grind⟩⟩) ⟨0, by grind⟩ h
    rw [Int.mul_comm n]
    exact Int.mul_dvd_mul (Int.dvd_refl k) hx
theorem hit_shift {n p s : Int} {ts : List Int} {c : Nat} : Hit n (ts.map fun t => (t + s) % n) ((p + s) % n) c ↔ Hit n ts p c := by
  constructor
  · refine hit_map (u := 1) (s := -s) (fun x hx => by rw [Int.one_mul]; exact hx) (fun t ht => ?_) ?_
    · obtain ⟨x, hx, rfl⟩ := List.mem_map.mp ht
      refine ⟨x, hx, ?_⟩
      have := Int.dvd_neg.mpr (emod_dvd (x + s) n)
      exact (congrArg (n ∣ ·) (by omega)).mp this
    · have := Int.dvd_neg.mpr (emod_dvd (p + s) n)
      exact (congrArg (n ∣ ·) (by omega)).mp this
  · refine hit_map (u := 1) (s := s) (fun x hx => by rw [Int.one_mul]; exact hx) (fun t ht => ⟨_, List.mem_map.mpr ⟨t, ht, rfl⟩, ?_⟩) ?_
    · rw [Int.one_mul]
      exact emod_dvd _ _
    · rw [Int.one_mul]
      exact emod_dvd _ _
theorem hit_unit {n p u : Int} {ts : List Int} {c : Nat} (hn : 0 ≤ n) (u0 : 0 ≤ u) (hu : gcdI u n = 1) : Hit n (ts.map fun t => t * u % n) (p * u % n) c ↔ Hit n ts p c := by
  constructor
  · obtain ⟨v, hv⟩ := inv_ex u0 hn hu
    have back : ∀ x : Int, n ∣ x - (v * (x * u % n) + 0) := fun x => by
      have d1 : n ∣ v * (x * u % n - x * u) := Int.dvd_mul_of_dvd_right (emod_dvd _ _)
      have d2 : n ∣ (u * v - 1) * x := Int.dvd_mul_of_dvd_left hv
      have := Int.dvd_neg.mpr (Int.dvd_add d1 d2)
      exact (congrArg (n ∣ ·) (by grind)).mp this
    refine hit_map (u := v) (s := 0) (fun x hx => Int.dvd_mul_of_dvd_right hx) (fun t ht => ?_) (back p)
    obtain ⟨x, hx, rfl⟩ := List.mem_map.mp ht
    exact ⟨x, hx, back x⟩
  · have fwd : ∀ x : Int, n ∣ x * u % n - (u * x + 0) := fun x => by
      have := emod_dvd (x * u) n
      exact (congrArg (n ∣ ·) (by grind)).mp this
    exact hit_map (u := u) (s := 0) (fun x hx => Int.dvd_mul_of_dvd_right hx) (fun t ht => ⟨_, List.mem_map.mpr ⟨t, ht, rfl⟩, fwd t⟩) (fwd p)
theorem hit_sub {n p : Int} {ts us : List Int} {c : Nat} (hs : ∀ t ∈ ts, t ∈ us) (h : Hit n ts p c) : Hit n us p c := by
  obtain ⟨v, ⟨l, l1, l2, l3⟩, d⟩ := h
  exact ⟨v, ⟨l, l1, fun x hx => hs x (l2 x hx), l3⟩, d⟩
theorem hit_mid {n p d : Int} {ts : List Int} {c : Nat} (h1 : Hit n ts ((p + d) % n) c) (h2 : Hit n ts ((p - d) % n) c) : Hit n ts p (c + 1) := by
  obtain ⟨v, a1, a2⟩ := h1
  obtain ⟨w, b1, b2⟩ := h2
  refine ⟨v + w, by rw [Nat.pow_succ, Nat.mul_two]; exact a1.add b1, ?_⟩
  have q1 : n ∣ 2 ^ c * ((p + d) % n - (p + d)) := Int.dvd_mul_of_dvd_right (emod_dvd _ _)
  have q2 : n ∣ 2 ^ c * ((p - d) % n - (p - d)) := Int.dvd_mul_of_dvd_right (emod_dvd _ _)
  have := Int.dvd_add (Int.dvd_add a2 b2) (Int.dvd_add q1 q2)
  refine (congrArg (n ∣ ·) ?_).mp this
  rw [Int.pow_succ]
  grind
/-! ### two targets -/
theorem sums_two {a b : Int} : ∀ (l : List Int), (∀ x ∈ l, x ∈ [a, b]) → ∃ j : Nat, j ≤ l.length ∧ l.sum = (l.length : Int) * a + j * (b - a)
  | [], _ => ⟨0, by simp, by simp⟩
  | x :: l, h => by
    obtain ⟨j, j1, j2⟩ := sums_two l fun y hy => h y (List.mem_cons_of_mem _ hy)
    have hx := h x List.mem_cons_self
    simp only [List.mem_cons, List.not_mem_nil, or_false] at hx
    rcases hx with rfl | rfl
    · exact ⟨j, by simp; omega, by rw [List.sum_cons, j2, List.length_cons, Int.natCast_add]; grind⟩
    · exact ⟨j + 1, by simp; omega, by rw [List.sum_cons, j2, List.length_cons, Int.natCast_add, Int.natCast_add]; grind⟩
theorem hit_two {n a b p : Int} {e : Nat} : Hit n [a, b] p e ↔ ∃ j : Nat, j ≤ 2 ^ e ∧ n ∣ (j : Int) * (b - a) - 2 ^ e * (p - a) := by
  constructor
  · rintro ⟨v, ⟨l, l1, l2, l3⟩, d⟩
    obtain ⟨j, j1, j2⟩ := sums_two l l2
    refine ⟨j, by omega, ?_⟩
    rw [← l3, j2, l1, Int.natCast_pow] at d
    have e2 : ((2 : Nat) : Int) = 2 := rfl
    rw [e2] at d
    exact (congrArg (n ∣ ·) (by grind)).mp d
  · rintro ⟨j, j1, d⟩
    refine ⟨_, ⟨List.replicate (2 ^ e - j) a ++ List.replicate j b, by simp; omega, fun x hx => ?_, rfl⟩, ?_⟩
    · rcases List.mem_append.mp hx with h | h
      · rw [(List.mem_replicate.mp h).2]
        exact List.mem_cons_self
      · rw [(List.mem_replicate.mp h).2]
        exact List.mem_cons_of_mem _ List.mem_cons_self
    · rw [List.sum_append, sum_pad, sum_pad]
      have e2 : ((2 ^ e - j : Nat) : Int) = 2 ^ e - j := by
        have : ((2 ^ e : Nat) : Int) = (2 : Int) ^ e := by simp
        omega
      rw [e2]
      exact (congrArg (n ∣ ·) (by grind)).mp d
theorem two_iff {n a b p f : Int} (hn : 0 < n) (hf : (b - a) % n / gcdI ((b - a) % n) n * f % (n / gcdI ((b - a) % n) n) = 1 % (n / gcdI ((b - a) % n) n)) (e : Nat) :
    Hit n [a, b] p e ↔ (p - a) % n * 2 ^ e % gcdI ((b - a) % n) n = 0 ∧ (p - a) % n * 2 ^ e / gcdI ((b - a) % n) n * f % (n / gcdI ((b - a) % n) n) ≤ 2 ^ e := by
  have G0 : 0 < gcdI ((b - a) % n) n := by
    have := gcd_pos2 (p := (b - a) % n) (n := n) (by omega)
    show (0 : Int) < ((Int.gcd ((b - a) % n) n : Nat) : Int)
    omega
  have Gn : gcdI ((b - a) % n) n ∣ n := Int.gcd_dvd_right _ _
  have Gg : gcdI ((b - a) % n) n ∣ (b - a) % n := Int.gcd_dvd_left _ _
  have cong : ∀ j : Int, n ∣ j * (b - a) - 2 ^ e * (p - a) ↔ n ∣ j * ((b - a) % n) - (p - a) % n * 2 ^ e := fun j => by
    have q1 : n ∣ j * ((b - a) % n - (b - a)) := Int.dvd_mul_of_dvd_right (emod_dvd _ _)
    have q2 : n ∣ 2 ^ e * ((p - a) % n - (p - a)) := Int.dvd_mul_of_dvd_right (emod_dvd _ _)
    constructor
    · intro h
      have := Int.dvd_sub (Int.dvd_add h q1) q2
      exact (congrArg (n ∣ ·) (by grind)).mp this
    · intro h
      have := Int.dvd_add (Int.dvd_sub h q1) q2
      exact (congrArg (n ∣ ·) (by grind)).mp this
  generalize (b - a) % n = g at *
  generalize (p - a) % n = d at *
  generalize gcdI g n = G at *
  obtain ⟨N, rfl⟩ := Gn
  obtain ⟨h, rfl⟩ := Gg
  have N0 : 0 < N := by
    by_cases q : 0 < N
    · exact q
    · have := Int.mul_nonneg (show 0 ≤ G by omega) (show 0 ≤ -N by omega)
      rw [Int.mul_neg] at this
      omega
  rw [Int.mul_ediv_cancel_left _ (by omega), Int.mul_ediv_cancel_left _ (by omega)] at hf
  rw [Int.mul_ediv_cancel_left _ (by omega), hit_two]
  have hf2 : N ∣ h * f - 1 := emod_eq_iff.mp hf
  constructor
  · rintro ⟨j, j1, dj⟩
    have dj := (cong j).mp dj
    have gd : G ∣ d * 2 ^ e := by
      have q1 : G ∣ (j : Int) * (G * h) := Int.dvd_mul_of_dvd_right (Int.dvd_mul_right _ _)
      have q2 : G ∣ (j : Int) * (G * h) - d * 2 ^ e := Int.dvd_trans (Int.dvd_mul_right _ _) dj
      have := Int.dvd_sub q1 q2
      exact (congrArg (G ∣ ·) (by omega)).mp this
    refine ⟨Int.emod_eq_zero_of_dvd gd, ?_⟩
    obtain ⟨X, hX⟩ := gd
    rw [hX, Int.mul_ediv_cancel_left _ (by omega)]
    rw [hX] at dj
    have dj2 : G * N ∣ G * ((j : Int) * h - X) := (congrArg (G * N ∣ ·) (by grind)).mp dj
    have dj3 : N ∣ (j : Int) * h - X := Int.dvd_of_mul_dvd_mul_left (by omega) dj2
    have q : N ∣ X * f - j := by
      have q1 : N ∣ ((j : Int) * h - X) * f := Int.dvd_mul_of_dvd_left dj3
      have q2 : N ∣ (j : Int) * (h * f - 1) := Int.dvd_mul_of_dvd_right hf2
      have := Int.dvd_sub q2 q1
      exact (congrArg (N ∣ ·) (by grind)).mp this
    rw [emod_eq_iff.mpr q]
    have d1 := Int.mul_ediv_add_emod (j : Int) N
    have d2 := Int.mul_nonneg (show 0 ≤ N by omega) (Int.ediv_nonneg (show (0 : Int) ≤ j by omega) (show 0 ≤ N by omega))
    have e2 : ((2 ^ e : Nat) : Int) = (2 : Int) ^ e := by simp
    omega
  · rintro ⟨h1, h2⟩
    obtain ⟨X, hX⟩ := Int.dvd_of_emod_eq_zero h1
    rw [hX, Int.mul_ediv_cancel_left _ (by omega)] at h2
    have x0 := Int.emod_nonneg (X * f) (show N ≠ 0 by omega)
    have e2 : ((2 ^ e : Nat) : Int) = (2 : Int) ^ e := by simp
    refine ⟨(X * f % N).toNat, by omega, (cong _).mpr ?_⟩
    rw [Int.toNat_of_nonneg x0, hX]
    have q1 : N ∣ (X * f % N - X * f) * h := Int.dvd_mul_of_dvd_left (emod_dvd _ _)
    have q2 : N ∣ X * (h * f - 1) := Int.dvd_mul_of_dvd_right hf2
    have q3 := Int.dvd_add q1 q2
    have q4 : G * N ∣ G * ((X * f % N - X * f) * h + X * (h * f - 1)) := Int.mul_dvd_mul (Int.dvd_refl G) q3
    exact (congrArg (G * N ∣ ·) (by grind)).mp q4
theorem bits_gt {n : Int} (h : 0 < n) : n < 2 ^ Builtin.Int.intBits n := by
  unfold Builtin.Int.intBits
  rw [if_neg (by simp; omega)]
  have := Nat.lt_log2_self (n := n.natAbs)
  have e : ((2 ^ (n.natAbs.log2 + 1) : Nat) : Int) = (2 : Int) ^ (n.natAbs.log2 + 1) := by simp
  omega
theorem two_min {n a b p f : Int} {c : Nat} (hn : 0 < n) (hf : (b - a) % n / gcdI ((b - a) % n) n * f % (n / gcdI ((b - a) % n) n) = 1 % (n / gcdI ((b - a) % n) n)) (h : TwoOk n ((b - a) % n) ((p - a) % n) f c) : MinC n [a, b] p (Builtin.Int.intBits n) (some c) := by
  refine ⟨?_, (two_iff hn hf c).mpr ⟨h.dv, h.le⟩, fun e he hit => ?_⟩
  · rcases h.least with z | ⟨z, _⟩
    · omega
    · have h1 := bits_gt hn
      by_cases q : c ≤ Builtin.Int.intBits n
      · exact q
      · exfalso
        have : (2 : Nat) ^ Builtin.Int.intBits n ≤ 2 ^ (c - 1) := Nat.pow_le_pow_right (by decide) (by omega)
        have e1 : ((2 ^ Builtin.Int.intBits n : Nat) : Int) = (2 : Int) ^ Builtin.Int.intBits n := by simp
        have e2 : ((2 ^ (c - 1) : Nat) : Int) = (2 : Int) ^ (c - 1) := by simp
        omega
  · rcases h.least with z | ⟨_, z⟩
    · omega
    · obtain ⟨q1, q2⟩ := (two_iff hn hf (c - 1)).mp (hit.up (c - 1) (by omega))
      rcases z with z | z
      · exact z q1
      · omega
theorem two_none {n a b p o : Int} {k : Nat} (hn : 0 < n) (he : gcdI ((b - a) % n) n = 2 ^ k * o) (ho : o % 2 = 1) (hd : ¬ (p - a) % n % o = 0) : ∀ e, ¬ Hit n [a, b] p e := fun e hit => by
  obtain ⟨j, _, d⟩ := hit_two.mp hit
  have Gn : gcdI ((b - a) % n) n ∣ n := Int.gcd_dvd_right _ _
  have Gg : gcdI ((b - a) % n) n ∣ (b - a) % n := Int.gcd_dvd_left _ _
  have on : o ∣ gcdI ((b - a) % n) n := by rw [he]; exact Int.dvd_mul_left _ _
  have o1 : o ∣ n := Int.dvd_trans on Gn
  have o2 : o ∣ b - a := by
    have := Int.dvd_sub (Int.dvd_trans on Gg) (Int.dvd_trans o1 (emod_dvd (b - a) n))
    exact (congrArg (o ∣ ·) (by omega)).mp this
  have o3 : o ∣ 2 ^ e * (p - a) := by
    have q1 : o ∣ (j : Int) * (b - a) := Int.dvd_mul_of_dvd_right o2
    have := Int.dvd_sub q1 (Int.dvd_trans o1 d)
    exact (congrArg (o ∣ ·) (by omega)).mp this
  have o4 := odd_pow2 ho e o3
  apply hd
  refine Int.emod_eq_zero_of_dvd ?_
  have := Int.dvd_add (Int.dvd_trans o1 (emod_dvd (p - a) n)) o4
  exact (congrArg (o ∣ ·) (by omega)).mp this

/-! ### amounts by places, as sum_counts halves them -/
abbrev entZ (x : Int × Int) : Key × V := (Sum.inl x.1, V.int x.2)
def getA (A : List (Int × Int)) (k : Int) : Option Int := (A.find? fun x => decide (x.1 = k)).map fun x => x.2
def putA (A : List (Int × Int)) (k v : Int) : List (Int × Int) := if (A.any fun x => decide (x.1 = k)) = true then A.map (fun x => if x.1 = k then (x.1, v) else x) else A ++ [(k, v)]
def sumA (A : List (Int × Int)) : Int := (A.map fun x => x.2).sum
def momA (A : List (Int × Int)) : Int := (A.map fun x => x.1 * x.2).sum
theorem val_entZ (k : Int) : ∀ A : List (Int × Int), valV (A.map entZ) (.inl k) = (getA A k).map V.int
  | [] => rfl
  | f :: A => by
    have ih := val_entZ k A
    rw [List.map_cons]
    unfold getA at ih ⊢
    rw [List.find?_cons]
    by_cases c : f.1 = k
    · rw [valV_pos (show Sum.inl f.1 = Sum.inl k by rw [c]), decide_eq_true c]
      rfl
    · rw [valV_neg (fun z => c (Sum.inl.inj z)), ih, decide_eq_false c]
theorem put_entZ (A : List (Int × Int)) (k v : Int) : putK (A.map entZ) (.inl k) (V.int v) = (putA A k v).map entZ := by
  have e : ((A.map entZ).any fun kv => decide (kv.1 = (Sum.inl k : Key))) = A.any fun x => decide (x.1 = k) := by
    rw [List.any_map]
    congr 1
    funext x
    show decide ((Sum.inl x.1 : Key) = Sum.inl k) = decide (x.1 = k)
    by_cases c : x.1 = k
    · simp [c]
    · simp [c]
  unfold putK putA
  rw [e]
  by_cases c : (A.any fun x => decide (x.1 = k)) = true
  · rw [if_pos c, if_pos c, List.map_map, List.map_map]
    refine List.map_congr_left fun x _ => ?_
    show (if (Sum.inl x.1 : Key) = Sum.inl k then ((Sum.inl x.1 : Key), V.int v) else (Sum.inl x.1, V.int x.2)) = entZ (if x.1 = k then (x.1, v) else x)
    by_cases h : x.1 = k
    · rw [if_pos h, if_pos (by rw [h])]
    · rw [if_neg h, if_neg fun z => h (Sum.inl.inj z)]
  · rw [if_neg c, if_neg c, List.map_append]
    rfl
theorem any_key (A : List (Int × Int)) (k : Int) : (A.any fun x => decide (x.1 = k)) = true ↔ k ∈ A.map fun x => x.1 := by
  rw [List.any_eq_true, List.mem_map]
  constructor
  · rintro ⟨x, h1, h2⟩
    exact ⟨x, h1, of_decide_eq_true h2⟩
  · rintro ⟨x, h1, h2⟩
    exact ⟨x, h1, decide_eq_true h2⟩
theorem put_sum {k a : Int} : ∀ {A : List (Int × Int)}, (A.map fun x => x.1).Nodup → sumA (putA A k ((getA A k).getD 0 + a)) = sumA A + a ∧ momA (putA A k ((getA A k).getD 0 + a)) = momA A + k * a := by
  intro A nd
  by_cases c : (A.any fun x => decide (x.1 = k)) = true
  · have key : ∀ B : List (Int × Int), (B.map fun x => x.1).Nodup → k ∈ B.map (fun x => x.1) → ∀ v : Int, sumA (B.map fun x => if x.1 = k then (x.1, v) else x) = sumA B + (v - (getA B k).getD 0) ∧ momA (B.map fun x => if x.1 = k then (x.1, v) else x) = momA B + k * (v - (getA B k).getD 0) := fun B => by
      induction B with
      | nil => exact fun _ h => by simp at h
      | cons f B ih =>
        intro nd hm v
        rw [List.map_cons, List.nodup_cons] at nd
        unfold getA sumA momA at ih ⊢
        rw [List.find?_cons]
        by_cases h : f.1 = k
        · have no : ∀ x ∈ B, (if x.1 = k then (x.1, v) else x) = x := fun x hx => by
            rw [if_neg]
            intro z
            exact nd.1 (List.mem_map.mpr ⟨x, hx, z.trans h.symm⟩)
          rw [List.map_cons, if_pos h, List.map_congr_left no, List.map_id', decide_eq_true h]
          simp only [List.map_cons, List.sum_cons, Option.map_some, Option.getD_some]
          rw [h]
          constructor
          · omega
          · rw [Int.mul_sub]
            omega
        · have hm2 : k ∈ B.map fun x => x.1 := by
            rcases List.mem_cons.mp hm with z | z
            · exact absurd z.symm h
            · exact z
          obtain ⟨i1, i2⟩ := ih nd.2 hm2 v
          rw [List.map_cons, if_neg h, decide_eq_false h]
          simp only [List.map_cons, List.sum_cons]
          constructor
          · rw [i1]
            omega
          · rw [i2]
            omega
    obtain ⟨q1, q2⟩ := key A nd ((any_key A k).mp c) ((getA A k).getD 0 + a)
    unfold putA
    rw [if_pos c]
    exact ⟨by rw [q1]; omega, by rw [q2]; congr 1; congr 1; omega⟩
  · have g0 : getA A k = none := by
      unfold getA
      rw [Option.map_eq_none_iff, List.find?_eq_none]
      intro x hx z
      exact c (List.any_eq_true.mpr ⟨x, hx, z⟩)
    unfold putA
    rw [if_neg c, g0]
    unfold sumA momA
    simp
theorem put_keys {A : List (Int × Int)} {k v : Int} (nd : (A.map fun x => x.1).Nodup) : ((putA A k v).map fun x => x.1).Nodup ∧ (∀ x ∈ putA A k v, x.1 = k ∧ x.2 = v ∨ x ∈ A) := by
  unfold putA
  by_cases c : (A.any fun x => decide (x.1 = k)) = true
  · rw [if_pos c]
    constructor
    · rw [List.map_map, show ((fun x : Int × Int => x.1) ∘ fun x => if x.1 = k then (x.1, v) else x) = fun x => x.1 from by
        funext x
        show (if x.1 = k then (x.1, v) else x).1 = x.1
        split <;> rfl]
      exact nd
    · intro x hx
      obtain ⟨y, hy, rfl⟩ := List.mem_map.mp hx
      by_cases h : y.1 = k
      · rw [if_pos h]
        exact .inl ⟨h, rfl⟩
      · rw [if_neg h]
        exact .inr hy
  · rw [if_neg c]
    constructor
    · rw [List.map_append, List.nodup_append]
      refine ⟨nd, by simp, fun a ha b hb z => ?_⟩
      have hb2 : b = k := by simpa using hb
      exact c ((any_key A k).mpr (by rw [← hb2, ← z]; exact ha))
    · intro x hx
      rcases List.mem_append.mp hx with h | h
      · exact .inr h
      · rw [List.mem_singleton.mp h]
        exact .inl ⟨rfl, rfl⟩
theorem getA_mem {A : List (Int × Int)} {k v : Int} (h : getA A k = some v) : (k, v) ∈ A := by
  unfold getA at h
  obtain ⟨x, h1, h2⟩ := Option.map_eq_some_iff.mp h
  have h3 := List.mem_of_find?_eq_some h1
  have h4 := List.find?_some h1
  have h5 : x.1 = k := of_decide_eq_true h4
  rw [← h5, ← h2]
  exact h3
/-- amounts on places of a set: their sum, and their sum weighted by the places -/
structure AOk (n B : Nat) (A : List (Int × Int)) (t m : Int) : Prop where
  nod : (A.map fun x => x.1).Nodup
  ok : ∀ x ∈ A, 0 ≤ x.1 ∧ x.1 < n ∧ B.testBit x.1.toNat = true ∧ 0 ≤ x.2
  sum : sumA A = t
  mom : (n : Int) ∣ momA A - m
theorem AOk.put {n B : Nat} {A : List (Int × Int)} {t m k a : Int} (h : AOk n B A t m) (k0 : 0 ≤ k) (k1 : k < n) (kb : B.testBit k.toNat = true) (a0 : 0 ≤ a) : AOk n B (putA A k ((getA A k).getD 0 + a)) (t + a) (m + k * a) := by
  obtain ⟨s1, s2⟩ := put_sum (k := k) (a := a) h.nod
  obtain ⟨p1, p2⟩ := put_keys (k := k) (v := (getA A k).getD 0 + a) h.nod
  have g0 : 0 ≤ (getA A k).getD 0 := by
    cases e : getA A k with
    | none => exact Int.le_refl _
    | some v => exact (h.ok _ (getA_mem e)).2.2.2
  refine ⟨p1, fun x hx => ?_, by rw [s1, h.sum], ?_⟩
  · rcases p2 x hx with ⟨e1, e2⟩ | hx
    · rw [e1, e2]
      exact ⟨k0, k1, kb, by omega⟩
    · exact h.ok x hx
  · rw [s2]
    exact (congrArg ((n : Int) ∣ ·) (by omega)).mp h.mom
theorem AOk.len {n B : Nat} {A : List (Int × Int)} {t m : Int} (h : AOk n B A t m) : A.length ≤ n := by
  have := List.Nodup.length_le_of_subset h.nod (l₂ := (List.range n).map fun (i : Nat) => (i : Int)) fun p hp => by
    obtain ⟨x, hx, rfl⟩ := List.mem_map.mp hp
    obtain ⟨h1, h2, _⟩ := h.ok x hx
    exact List.mem_map.mpr ⟨x.1.toNat, List.mem_range.mpr (by omega), by omega⟩
  simpa using this
theorem AOk.to {n B : Nat} {A : List (Int × Int)} {t u m r : Int} (h : AOk n B A t m) (e : t = u) (d : (n : Int) ∣ m - r) : AOk n B A u r := ⟨h.nod, h.ok, h.sum.trans e, by
  have := Int.dvd_add h.mom d
  exact (congrArg ((n : Int) ∣ ·) (by omega)).mp this⟩

theorem and_cast (a b : Nat) : Builtin.bitAnd (a : Int) (b : Int) = ((a &&& b : Nat) : Int) := by
  unfold Builtin.bitAnd
  simp
theorem low_bit {W : Nat} (h : 0 < W) : ∃ j, Builtin.bitAnd (W : Int) (-(W : Int)) = 2 ^ j ∧ W.testBit j = true := by
  obtain ⟨j, a, e⟩ := odd_split W (W : Int) (by omega) (by simp)
  refine ⟨j, ?_, ?_⟩
  · rw [e]
    exact PySem.W.kbt_low j a
  · have p2 : (0 : Int) < 2 ^ j := Int.pow_pos (by decide)
    have a0 : 0 ≤ a := by
      refine Classical.byContradiction fun no => ?_
      have : (2 : Int) ^ j * (2 * a + 1) ≤ 2 ^ j * 0 := Int.mul_le_mul_of_nonneg_left (by omega) (by omega)
      omega
    have e2 : W = 2 ^ j * (2 * a.toNat + 1) := by
      have h2 : ((2 ^ j * (2 * a.toNat + 1) : Nat) : Int) = 2 ^ j * (2 * a + 1) := by
        rw [Int.natCast_mul, Int.natCast_pow, Int.natCast_add, Int.natCast_mul, Int.toNat_of_nonneg a0]
        rfl
      have : ((2 ^ j * (2 * a.toNat + 1) : Nat) : Int) = (W : Int) := h2.trans e.symm
      omega
    rw [Nat.testBit_eq_decide_div_mod_eq, e2, Nat.mul_div_cancel_left _ (Nat.pow_pos (by decide))]
    exact decide_eq_true (by omega)
theorem bits_pow (j : Nat) : Builtin.Int.intBits (2 ^ j) = j + 1 := by
  unfold Builtin.Int.intBits
  have h : (2 ^ j : Int).natAbs = 2 ^ j := by rw [Int.natAbs_pow]; rfl
  have p2 : (0 : Int) < 2 ^ j := Int.pow_pos (by decide)
  rw [if_neg (by simp; omega), h, Nat.log2_two_pow]
/-- the places mirrored -/
def mirN (n B : Nat) : List Int := ((List.range n).filter fun p => B.testBit p).map fun (p : Nat) => (-(p : Int)) % n
theorem mir_bit {n B q : Nat} : (bitsN (mirN n B)).testBit q = true ↔ ∃ p, p < n ∧ B.testBit p = true ∧ ((-(p : Int)) % n).toNat = q := by
  rw [bits_bit]
  unfold mirN
  constructor
  · rintro ⟨t, ht, e⟩
    obtain ⟨p, hp, rfl⟩ := List.mem_map.mp ht
    obtain ⟨h1, h2⟩ := List.mem_filter.mp hp
    exact ⟨p, List.mem_range.mp h1, h2, e⟩
  · rintro ⟨p, h1, h2, h3⟩
    exact ⟨_, List.mem_map.mpr ⟨p, List.mem_filter.mpr ⟨List.mem_range.mpr h1, h2⟩, rfl⟩, h3⟩
theorem mir_lt {n B : Nat} (n0 : 0 < n) : ∀ t ∈ mirN n B, 0 ≤ t ∧ t < (n : Int) := fun t ht => by
  obtain ⟨p, _, rfl⟩ := List.mem_map.mp ht
  exact ⟨Int.emod_nonneg _ (by omega), Int.emod_lt_of_pos _ (by omega)⟩
/-- the first of a pair of places with a given sum -/
theorem pair_of {n B t : Nat} (n0 : 0 < n) (hB : B < 2 ^ n) (ht : (dblN n B).testBit t = true) : ∃ j, Builtin.bitAnd ((B &&& rotN n (bitsN (mirN n B)) t : Nat) : Int) (-((B &&& rotN n (bitsN (mirN n B)) t : Nat) : Int)) = 2 ^ j ∧ j < n ∧ B.testBit j = true ∧ B.testBit (((t : Int) - j) % n).toNat = true := by
  have hM : bitsN (mirN n B) < 2 ^ n := bits_lt fun x hx => by
    have := mir_lt (B := B) n0 x hx
    omega
  obtain ⟨tn, a, b, an, bn, ha, hb, e⟩ := (dbl_bit hB).mp ht
  have rot : ∀ q, (rotN n (bitsN (mirN n B)) t).testBit q = true ↔ q < n ∧ ∃ p, p < n ∧ B.testBit p = true ∧ ((t : Int) - q) % n = p := fun q => by
    rw [rot_bit hM tn]
    constructor
    · rintro ⟨h1, x, xn, hx, ex⟩
      obtain ⟨p, pn, hp, ep⟩ := mir_bit.mp hx
      refine ⟨h1, p, pn, hp, ?_⟩
      have e1 : (x : Int) = (-(p : Int)) % n := by
        rw [← ep]
        exact Int.toNat_of_nonneg (Int.emod_nonneg _ (by omega))
      have e2 : ((x : Int) + t) % n = q := by
        have := congrArg (fun z : Nat => (z : Int)) ex
        simpa using this
      have e3 : ((t : Int) - q) % n = (p : Int) % n := by
        refine emod_eq_iff.mpr ?_
        have h2 : (n : Int) ∣ ((x : Int) + t) - q := by
          rw [← e2]
          have := Int.dvd_neg.mpr (emod_dvd ((x : Int) + t) (n : Int))
          exact (congrArg ((n : Int) ∣ ·) (by omega)).mp this
        have h3 : (n : Int) ∣ (x : Int) - (-(p : Int)) := by
          rw [e1]
          exact emod_dvd _ _
        have := Int.dvd_sub h2 h3
        exact (congrArg ((n : Int) ∣ ·) (by omega)).mp this
      rw [e3, Int.emod_eq_of_lt (by omega) (by omega)]
    · rintro ⟨h1, p, pn, hp, ep⟩
      refine ⟨h1, ((-(p : Int)) % n).toNat, ?_, mir_bit.mpr ⟨p, pn, hp, rfl⟩, ?_⟩
      · have h2 := Int.emod_nonneg (-(p : Int)) (show (n : Int) ≠ 0 by omega)
        have h3 := Int.emod_lt_of_pos (-(p : Int)) (show (0 : Int) < n by omega)
        omega
      · have e1 : ((((-(p : Int)) % n).toNat : Nat) : Int) = (-(p : Int)) % n := Int.toNat_of_nonneg (Int.emod_nonneg _ (by omega))
        have e2 : (((((-(p : Int)) % n).toNat + t) % n : Nat) : Int) = (q : Int) := by
          rw [Int.natCast_emod, Int.natCast_add, e1]
          have h2 : ((-(p : Int)) % n + t) % n = (q : Int) % n := by
            refine emod_eq_iff.mpr ?_
            have h3 := emod_dvd (-(p : Int)) (n : Int)
            have h4 : (n : Int) ∣ ((t : Int) - q) - p := by
              rw [← ep]
              have := Int.dvd_neg.mpr (emod_dvd ((t : Int) - q) (n : Int))
              exact (congrArg ((n : Int) ∣ ·) (by omega)).mp this
            have := Int.dvd_add h3 h4
            exact (congrArg ((n : Int) ∣ ·) (by omega)).mp this
          rw [h2, Int.emod_eq_of_lt (by omega) (by omega)]
        omega
  have both : (B &&& rotN n (bitsN (mirN n B)) t).testBit a = true := by
    rw [Nat.testBit_and, ha, Bool.true_and]
    refine (rot a).mpr ⟨an, b, bn, hb, ?_⟩
    have h2 : ((t : Int) - a) % n = (b : Int) % n := by
      refine emod_eq_iff.mpr ?_
      have e2 : ((a : Int) + b) % n = t := by
        have := congrArg (fun z : Nat => (z : Int)) e
        simpa using this
      rw [← e2]
      have := emod_dvd ((a : Int) + b) (n : Int)
      exact (congrArg ((n : Int) ∣ ·) (by omega)).mp this
    rw [h2, Int.emod_eq_of_lt (by omega) (by omega)]
  have W0 : 0 < B &&& rotN n (bitsN (mirN n B)) t := by
    refine Nat.pos_of_ne_zero fun z => ?_
    rw [z] at both
    simp at both
  obtain ⟨j, j1, j2⟩ := low_bit W0
  rw [Nat.testBit_and, Bool.and_eq_true] at j2
  obtain ⟨jn, p, pn, hp, ep⟩ := (rot j).mp j2.2
  exact ⟨j, j1, jn, j2.1, by rw [ep]; simpa using hp⟩
def CntZ (H : Hp) (d : Addr) (A : List (Int × Int)) : Prop := H d = some (.dK (A.map entZ))
theorem cnt_getZ {H : Hp} {d : Addr} {A : List (Int × Int)} (k : Int) (h : CntZ H d A) : DGet H d (.int k) ((getA A k).map V.int) := by
  rw [← val_entZ]
  exact DGet.k (k := .inl k) h
/-- the amounts of a place split in two -/
def addA (ga : Int) (F : List (Int × Int)) (k : Int) : List (Int × Int) := putA F k ((getA F k).getD 0 + ga)
def splitA (n B : Nat) (F : List (Int × Int)) (g : Int × Int) : List (Int × Int) :=
  let W := Builtin.bitAnd (B : Int) (rotN n (bitsN (mirN n B)) g.1.toNat : Nat)
  let j := (Builtin.Int.intBits (Builtin.bitAnd W (-W)) : Int) - 1
  [j, (g.1 - j) % n].foldl (addA g.2) F
def halvedF (n B : Nat) (A : List (Int × Int)) : List (Int × Int) := A.foldl (splitA n B) []
theorem fold_more {α β : Type} {f : β → α → β} {b : β} {l : List α} {i : Nat} {x : α} (h : l[i]? = some x) : (l.take (i + 1)).foldl f b = f ((l.take i).foldl f b) x := by
  obtain ⟨h1, h2⟩ := List.getElem?_eq_some_iff.mp h
  rw [List.take_succ_eq_append_getElem h1, List.foldl_append, h2]
  rfl
theorem getZ (o : Option Int) : (o.map V.int).getD (.int 0) = V.int (o.getD 0) := by cases o <;> rfl
section
variable {P : Program} {w : World} {K : PySem.W.Frag} {mg : Str → Option Value} {base : Heap}
end

def wsum (ws xs : List Int) : Int := (List.zipWith (fun w x => w * x) ws xs).sum

section
variable {P : Program} {w : World} {K : PySem.W.Frag} {mg : Str → Option Value} {base : Heap}
def sp_require_counts : Sp := fun vs H Q _ => ∃ (q : Bool × Addr) (c : Addr) (ts : List Int) (cs : List Int), vs = [.ref q.2, .ref c] ∧ SqH H q (ts.map V.int) ∧ H c = some (.lst (cs.map V.int)) ∧ cs.length = ts.length ∧ (∀ x ∈ cs, 0 ≤ x) ∧ ∀ H2, Ex H H2 → Q .non H2
theorem ok_require_counts (T : TX K mg) : FnOk P w K mg base CX0 3 T.f_require_counts T.fd_require_counts ["targets", "counts"] sp_require_counts := by
  refine T.F_require_counts.ok sc_require_counts (fun vs H Q E h => ?_) (fun cdv A outer s H vs Q E hr h => ?_)
  · obtain ⟨q, c, ts, cs, rfl, _⟩ := h
    rfl
  · obtain ⟨q, c, ts, cs, rfl, hq, hc, l, pos, k⟩ := h
    refine ⟨_, (pss_cons (ps_if (PW.pt (pw_or (pt_not (pt_val (pe_callB call_isi (by rfl) T.z_isinstance (by decide +kernel) (pa_cons (pv 1) (pa_cons (pe_bltn (v := .ty "list") rfl T.z_list (by decide +kernel) rfl) pa_nil))))) (pw_or1 (pt_cmpR op_ne (pe_callB call_len_seq (by rfl) T.z_len (by decide +kernel) (pa_cons (pv 1) pa_nil)) (pe_callB call_len_seq (by rfl) T.z_len (by decide +kernel) (pa_cons (pv 0) pa_nil)) (nomark _))))) pss_never pss_nil) (pss_one (ps_for PassesOwn.never rfl (CE.pi_e rfl T.z_enumerate (pa_cons (pv 1) pa_nil)) (pg_tup rfl (pgs_cons (pg_name (i := 2) sc_require_counts.nd rfl (Or.inl rfl)) (pgs_cons (pg_name (i := 3) sc_require_counts.nd rfl (Or.inl rfl)) pgs_nil))) (pss_one (ps_if (pt_not (pt_val (pe_call (ok_is_at_least T) hr rfl T.m_is_at_least T.F_is_at_least.kp T.b_is_at_least .nil pass0 (pa_cons (pv 3) (pa_cons pe_int pa_nil))))) pss_never pss_nil))))), ?_⟩
    refine ⟨_, rfl, _, _, _, _, true, rfl, .ty _, .base (.lst hc), kit_ty (by decide +kernel), _, rfl, itf rfl ?_⟩
    obtain ⟨b, a⟩ := q
    refine ⟨_, rfl, c, _, rfl, .inl (SqL.of hc), _, rfl, a, _, rfl, sq_or hq, rfl, _, rfl, itf (by rw [List.length_map, List.length_map, l]; simp) ?_⟩
    refine ⟨_, rfl, (false, c), rfl, ⟨_, (show SqH H (false, c) _ from hc).sq⟩, ?_⟩
    refine for_it (CE.walk_e (xs := cs.map V.int)) (fun i σ H2 => ∃ (y2 y3 : Option V), σ = [some (.ref a), some (.ref c), y2, y3] ∧ Ex H H2) ⟨_, _, rfl, exr⟩ (fun i σ H2 _ ⟨_, _, _, e⟩ => (show SqH H2 (false, c) _ from e _ _ hc).sq) ?_ (fun σ H2 ⟨_, _, e, e2⟩ => by subst e; exact k _ e2)
    rintro i x σ H2 H3 hi ⟨y2, y3, rfl, e2⟩ yy
    obtain ⟨Ta, x1, x2, rfl, hT, rfl, hx1, hx2⟩ := yy
    cases hx1
    obtain ⟨t, ht, rfl⟩ := map_get hx2
    have t0 := pos t (List.mem_of_getElem? ht)
    have e4 := exn (o := .tup [.int (i : Nat), .int t]) hT
    refine ⟨Ta, _, rfl, SqT.of upd_same, rfl, _, _, rfl, _, _, rfl, rfl, ?_⟩
    refine ⟨_, rfl, _, some t, 0, rfl, rfl, _, rfl, itf ?_ ⟨_, _, rfl, ext e2 e4⟩⟩
    show (!decide (0 ≤ t)) = false
    rw [decide_eq_true t0]
    rfl
def sp_require_sum : Sp := fun vs H Q _ => ∃ (n p tot : Int) (q : Bool × Addr) (c : Addr) (ts : List Int) (cs : List Int), vs = [.int n, .ref q.2, .int p, .ref c, .int tot] ∧ 1 ≤ n ∧ SqH H q (ts.map V.int) ∧ H c = some (.lst (cs.map V.int)) ∧ cs.length = ts.length ∧ ts.length ≤ 100 ∧ (∀ x ∈ cs, x.natAbs < 2 ^ 5000) ∧ (∀ x ∈ ts, x.natAbs < 2 ^ 5000) ∧ tot.natAbs < 2 ^ 5000 ∧ p.natAbs < 2 ^ 5000 ∧ cs.sum = tot ∧ n ∣ wsum cs ts - tot * p ∧ ∀ H2, Ex H H2 → Q .non H2
theorem ok_require_sum (T : TX K mg) : FnOk P w K mg base CX0 1 T.f_require_sum T.fd_require_sum ["size", "targets", "place", "counts", "total"] sp_require_sum := by
  refine T.F_require_sum.ok sc_require_sum (fun vs H Q E h => ?_) (fun cdv A outer s H vs Q E hr h => ?_)
  · obtain ⟨n, p, tot, q, c, ts, cs, rfl, _⟩ := h
    rfl
  · obtain ⟨n, p, tot, ⟨b, a⟩, c, ts, cs, rfl, n1, ha, hc, l, l100, bc, bt, btot, bp, esum, dv, k⟩ := h
    refine ⟨_, (pss_cons (ps_if (pt_cmpR op_ne (pe_callB (cr_sum rfl) (by rfl) T.z_sum (by decide +kernel) (pa_cons (pv 3) pa_nil)) (pv 4) (nomark _)) pss_never pss_nil) (pss_cons (ps_set (i := 5) sc_require_sum.nd rfl (Or.inl rfl) (pe_callB (cr_sum rfl) (by rfl) T.z_sum (by decide +kernel) (pa_cons (pe_lc (own := [("count", 6), ("target", 7)]) (g := (gTup K 2 (gCons (gName 6) (gCons (gName 7) gNil)))) rfl sc_require_sum.nd (CZ.pi_z2s (fl := [false, b]) rfl (by rfl) T.z_zip (pa_cons (pv 3) (pa_cons (pv 1) pa_nil))) (blkOk_by (N := N_require_sum) (sc := defScope s_require_sum) (by decide +kernel)) (fun _ _ _ _ _ => (pg_tup rfl (pgs_cons (pg_name (i := 6) sc_require_sum.nd rfl (Or.inl rfl)) (pgs_cons (pg_name (i := 7) sc_require_sum.nd rfl (Or.inl rfl)) pgs_nil)))) (fun _ _ _ _ _ => pts_nil) (fun _ _ _ _ _ => (pe_op op_mulI (pv 6) (pv 7)))) pa_nil))) (pss_one (ps_if (pt_cmpR op_ne (pe_op op_mod (pe_op op_sub (pv 5) (pe_op op_mulI (pv 4) (pv 2))) (pv 0)) pe_int (nomark _)) pss_never pss_nil)))), ?_⟩
    have cB : ∀ x ∈ cs, x.natAbs < 2 ^ 5000 := bc
    refine ⟨_, rfl, c, cs, rfl, SqL.of hc, _, rfl, rfl, _, rfl, itf (by rw [esum]; simp) ?_⟩
    refine ⟨_, rfl, _, rfl, [c, a], rfl, rfl, all2 (sqL hc) ha.sq, fun D hD => ?_⟩
    refine lc_vals (CZ.walk_rows (xss := [cs.map V.int, ts.map V.int]) (n := ts.length) (lens2 (by rw [List.length_map, l]) (by rw [List.length_map]))) ((List.zipWith (fun w x => w * x) cs ts).map V.int) (by rw [List.length_map, List.length_zipWith, l, Nat.min_self]) (by omega) hD (fun H3 e => .cons (sqL (e _ _ hc)) (.cons (ha.mono e).sq .nil)) ?_ (gmono_tup (gmono_cons gmono_name (gmono_cons gmono_name gmono_nil))) ?_
    · intro j y H6 H7 R hj e yy kk
      obtain ⟨Tb, p, d, rfl, hTb, rfl, hp, hdd⟩ := yints2 yy
      refine ⟨Tb, _, rfl, SqT.of upd_same, rfl, _, _, rfl, _, _, rfl, rfl, ?_⟩
      refine ⟨rfl, _, rfl, _, rfl, _, _, rfl, rfl, (wide_mul (cB p (List.mem_of_getElem? hp)) (bt d (List.mem_of_getElem? hdd)) (by decide) (by decide) (by decide)).ok, ?_⟩
      refine kk _ _ (exn hTb) ?_
      rw [List.getElem?_map, List.getElem?_zipWith, hp, hdd]
      rfl
    · intro H3 e3 hD3
      refine ⟨D, _, rfl, SqL.of hD3, ?_⟩
      dsimp only [gName]
      refine ⟨_, rfl, _, rfl, _, rfl, _, _, rfl, rfl, (wide_mul btot bp (by decide) (by decide) (by decide)).ok, _, _, rfl, rfl, _, rfl, _, _, rfl, rfl, (by omega), rfl, _, rfl, itf ?_ (k _ e3)⟩
      have : ((List.zipWith (fun w x => w * x) cs ts).sum - tot * p) % n = 0 := Int.emod_eq_zero_of_dvd dv
      show (!decide (V.int (((List.zipWith (fun w x => w * x) cs ts).sum - tot * p) % n) = V.int 0)) = false
      rw [this]
      simp
end

/-! ### comprehensions of new tuples -/
theorem paired_mono {α : Type} {P Q : V → α → Prop} (h : ∀ v a, P v a → Q v a) : ∀ {xs : List V} {as : List α}, Paired P xs as → Paired Q xs as
  | _, _, .nil => .nil
  | _, _, .cons q t => .cons (h _ _ q) (paired_mono h t)
theorem paired_snoc {α : Type} {P : V → α → Prop} {v : V} {a : α} (h : P v a) : ∀ {xs : List V} {as : List α}, Paired P xs as → Paired P (xs ++ [v]) (as ++ [a])
  | _, _, .nil => .cons h .nil
  | _, _, .cons q t => .cons q (paired_snoc h t)
theorem lc_new {α : Type} (Pd : Hp → V → α → Prop) (mono : ∀ (H H2 : Hp) (v : V) (a : α), (∀ c xs, H c = some (.tup xs) → H2 c = some (.tup xs)) → Pd H v a → Pd H2 v a)
    {J : It} {n : Nat} {G : Hp → Prop} {Y : Nat → Hp → V → Hp → Prop} (w : Walk J n G Y) {g : TG} {te : TE} {vs : List Nat} {σ : L2.St} {H1 : Hp} {D : Addr} {Qd : Hp → Prop} (as : List α) (hn : as.length = n) (hl : n ≤ 10000000) (hD : H1 D = none)
    (hG : ∀ H, Ex H1 H → G H)
    (hs : ∀ i x a H H2 (R : VK), as[i]? = some a → Ex H1 H → Y i H x H2 → (∀ v H5, Ex H H5 → Pd H5 v a → R v H5) → g x (wipe σ vs) H2 fun σ2 H3 => wipe σ2 vs = wipe σ vs ∧ te σ2 H3 R)
    (hg : ∀ x σ2 H2 (R R2 : L2.St → Hp → Prop), (∀ σ3 H3, R σ3 H3 → R2 σ3 H3) → g x σ2 H2 R → g x σ2 H2 R2)
    (hd : ∀ H xs, Ex H1 H → H D = some (.lst xs) → Paired (Pd H) xs as → Qd H) :
    ∃ W : Nat → Nat → Hp → Prop, (∃ m, W 0 m (upd H1 D (.lst []))) ∧ ∀ i m H, W i m H →
      (J.stop i H ∧ Qd H) ∨ (J.go i H ∧ ∃ Nx : Hp → Prop, (∀ H2, Nx H2 → ∃ m2, m2 < m ∧ W (i + 1) m2 H2) ∧ ∀ x H2, J.yld i H x H2 → g x (wipe σ vs) H2 fun σ2 H3 => wipe σ2 vs = wipe σ vs ∧ tYes σ2 H3 fun b H4 =>
        if b = true then te σ2 H4 fun y H5 => ∃ acc, H5 D = some (.lst acc) ∧ acc.length < sizeLine ∧ Nx (upd H5 D (.lst (acc ++ [y]))) else Nx H4) := by
  refine lc_it w (fun i H => Ex H1 H ∧ ∃ xs, H D = some (.lst xs) ∧ Paired (Pd H) xs (as.take i)) ⟨exn hD, [], upd_same, .nil⟩ (fun i H _ p => hG H p.1) (fun i x H H2 hi p y => ?_) (fun H p => ?_)
  · obtain ⟨a, ha⟩ : ∃ a, as[i]? = some a := ⟨_, List.getElem?_eq_getElem (by omega)⟩
    refine hg _ _ _ _ _ (fun σ3 H3 q => ⟨q.1, q.2⟩) (hs i x a H H2 (fun y H5 => ∃ acc, H5 D = some (.lst acc) ∧ acc.length < sizeLine ∧ Ex H1 (upd H5 D (.lst (acc ++ [y]))) ∧ ∃ xs, upd H5 D (.lst (acc ++ [y])) D = some (.lst xs) ∧ Paired (Pd (upd H5 D (.lst (acc ++ [y])))) xs (as.take (i + 1))) ha p.1 y fun v H5 e hv => ?_)
    obtain ⟨p1, xs, p2, p3⟩ := p
    have tp : ∀ c zs, H5 c = some (.tup zs) → upd H5 D (.lst (xs ++ [v])) c = some (.tup zs) := fun c zs z => by
      rw [upd_ne (ne_of z (e _ _ p2) (by intro q; cases q))]
      exact z
    refine ⟨xs, e _ _ p2, ?_, ex_upd (ext p1 e) hD, xs ++ [v], upd_same, ?_⟩
    · rw [Paired.length p3, List.length_take]
      exact Nat.lt_of_le_of_lt (Nat.le_trans (Nat.min_le_right _ _) (by rw [hn]; exact hl)) (by decide)
    · rw [take_more ha]
      refine paired_snoc (mono _ _ _ _ tp hv) (paired_mono (fun v a q => mono _ _ _ _ tp (mono _ _ _ _ (fun c zs z => e _ _ z) q)) p3)
  · obtain ⟨p1, xs, p2, p3⟩ := p
    rw [List.take_of_length_le (by omega)] at p3
    exact hd H xs p1 p2 p3
def PdRow (H : Hp) (x : V) (hs : List Int) : Prop := ∃ r, x = V.ref r ∧ H r = some (.tup (hs.map V.int))
theorem pdrow_mono (H H2 : Hp) (v : V) (a : List Int) (e : ∀ c xs, H c = some (.tup xs) → H2 c = some (.tup xs)) (h : PdRow H v a) : PdRow H2 v a := by
  obtain ⟨r, h1, h2⟩ := h
  exact ⟨r, h1, e _ _ h2⟩

/-- a comprehension of new objects with a test -/
theorem lc_newF {α : Type} (Pd : Hp → V → α → Prop) (mono : ∀ (H H2 : Hp) (v : V) (a : α), (∀ c xs, H c = some (.tup xs) → H2 c = some (.tup xs)) → Pd H v a → Pd H2 v a)
    {J : It} {n : Nat} {G : Hp → Prop} {Y : Nat → Hp → V → Hp → Prop} (w : Walk J n G Y) {g : TG} {tt : TT} {te : TE} {vs : List Nat} {σ : L2.St} {H1 : Hp} {D : Addr} {Qd : Hp → Prop} (as : List α) (c : α → Bool) (hn : as.length = n) (hl : n ≤ 10000000) (hD : H1 D = none)
    (hG : ∀ H, Ex H1 H → G H)
    (hs : ∀ i x a H H2 (R : VK) (S : Hp → Prop), as[i]? = some a → Ex H1 H → Y i H x H2 → (∀ v H5, Ex H H5 → c a = true → Pd H5 v a → R v H5) → (∀ H4, Ex H H4 → c a = false → S H4) → g x (wipe σ vs) H2 fun σ2 H3 => wipe σ2 vs = wipe σ vs ∧ tt σ2 H3 fun b H4 => if b = true then te σ2 H4 R else S H4)
    (hd : ∀ H xs, Ex H1 H → H D = some (.lst xs) → Paired (Pd H) xs (as.filter c) → Qd H) :
    ∃ W : Nat → Nat → Hp → Prop, (∃ m, W 0 m (upd H1 D (.lst []))) ∧ ∀ i m H, W i m H →
      (J.stop i H ∧ Qd H) ∨ (J.go i H ∧ ∃ Nx : Hp → Prop, (∀ H2, Nx H2 → ∃ m2, m2 < m ∧ W (i + 1) m2 H2) ∧ ∀ x H2, J.yld i H x H2 → g x (wipe σ vs) H2 fun σ2 H3 => wipe σ2 vs = wipe σ vs ∧ tt σ2 H3 fun b H4 =>
        if b = true then te σ2 H4 fun y H5 => ∃ acc, H5 D = some (.lst acc) ∧ acc.length < sizeLine ∧ Nx (upd H5 D (.lst (acc ++ [y]))) else Nx H4) := by
  refine lc_it w (fun i H => Ex H1 H ∧ ∃ xs, H D = some (.lst xs) ∧ Paired (Pd H) xs ((as.take i).filter c)) ⟨exn hD, [], upd_same, .nil⟩ (fun i H _ p => hG H p.1) (fun i x H H2 hi p y => ?_) (fun H p => ?_)
  · obtain ⟨a, ha⟩ : ∃ a, as[i]? = some a := ⟨as[i]'(by omega), List.getElem?_eq_getElem (by omega)⟩
    obtain ⟨p1, xs, p2, p3⟩ := p
    refine hs i x a H H2 _ (fun H3 => Ex H1 H3 ∧ ∃ xs, H3 D = some (.lst xs) ∧ Paired (Pd H3) xs ((as.take (i + 1)).filter c)) ha p1 y (fun v H5 e hc hv => ?_) (fun H4 e hc => ?_)
    · have tp : ∀ c zs, H5 c = some (.tup zs) → upd H5 D (.lst (xs ++ [v])) c = some (.tup zs) := fun c zs z => by
        rw [upd_ne (ne_of z (e _ _ p2) (by intro q; cases q))]
        exact z
      refine ⟨xs, e _ _ p2, ?_, ex_upd (ext p1 e) hD, xs ++ [v], upd_same, ?_⟩
      · rw [Paired.length p3]
        refine Nat.lt_of_le_of_lt (Nat.le_trans (List.length_filter_le _ _) ?_) (show 10000000 < sizeLine by decide)
        rw [List.length_take]
        omega
      · rw [take_more ha, List.filter_append, show [a].filter c = [a] by simp [hc]]
        exact paired_snoc (mono _ _ _ _ tp hv) (paired_mono (fun v a q => mono _ _ _ _ tp (mono _ _ _ _ (fun c zs z => e _ _ z) q)) p3)
    · refine ⟨ext p1 e, xs, e _ _ p2, ?_⟩
      rw [take_more ha, List.filter_append, show [a].filter c = [] by simp [hc], List.append_nil]
      exact paired_mono (fun v a q => mono _ _ _ _ (fun c zs z => e _ _ z) q) p3
  · obtain ⟨p1, xs, p2, p3⟩ := p
    rw [List.take_of_length_le (by omega)] at p3
    exact hd H xs p1 p2 p3
/-- .. of new objects of any kind, beside the list itself -/
theorem lc_newG {α : Type} {D : Addr} (Pd : Hp → V → α → Prop) (mono : ∀ (H H2 : Hp) (v : V) (a : α) (ys : List V), H D = some (.lst ys) → (∀ c o, c ≠ D → H c = some o → H2 c = some o) → Pd H v a → Pd H2 v a)
    {J : It} {n : Nat} {G : Hp → Prop} {Y : Nat → Hp → V → Hp → Prop} (w : Walk J n G Y) {g : TG} {tt : TT} {te : TE} {vs : List Nat} {σ : L2.St} {H1 : Hp} {Qd : Hp → Prop} (as : List α) (c : α → Bool) (hn : as.length = n) (hl : n ≤ 10000000) (hD : H1 D = none)
    (hG : ∀ H, Ex H1 H → G H)
    (hs : ∀ i x a H H2 (R : VK) (S : Hp → Prop), as[i]? = some a → Ex H1 H → (∃ ys, H D = some (.lst ys)) → Y i H x H2 → (∀ v H5, Ex H H5 → c a = true → Pd H5 v a → R v H5) → (∀ H4, Ex H H4 → c a = false → S H4) → g x (wipe σ vs) H2 fun σ2 H3 => wipe σ2 vs = wipe σ vs ∧ tt σ2 H3 fun b H4 => if b = true then te σ2 H4 R else S H4)
    (hd : ∀ H xs, Ex H1 H → H D = some (.lst xs) → Paired (Pd H) xs (as.filter c) → Qd H) :
    ∃ W : Nat → Nat → Hp → Prop, (∃ m, W 0 m (upd H1 D (.lst []))) ∧ ∀ i m H, W i m H →
      (J.stop i H ∧ Qd H) ∨ (J.go i H ∧ ∃ Nx : Hp → Prop, (∀ H2, Nx H2 → ∃ m2, m2 < m ∧ W (i + 1) m2 H2) ∧ ∀ x H2, J.yld i H x H2 → g x (wipe σ vs) H2 fun σ2 H3 => wipe σ2 vs = wipe σ vs ∧ tt σ2 H3 fun b H4 =>
        if b = true then te σ2 H4 fun y H5 => ∃ acc, H5 D = some (.lst acc) ∧ acc.length < sizeLine ∧ Nx (upd H5 D (.lst (acc ++ [y]))) else Nx H4) := by
  refine lc_it w (fun i H => Ex H1 H ∧ ∃ xs, H D = some (.lst xs) ∧ Paired (Pd H) xs ((as.take i).filter c)) ⟨exn hD, [], upd_same, .nil⟩ (fun i H _ p => hG H p.1) (fun i x H H2 hi p y => ?_) (fun H p => ?_)
  · obtain ⟨a, ha⟩ : ∃ a, as[i]? = some a := ⟨as[i]'(by omega), List.getElem?_eq_getElem (by omega)⟩
    obtain ⟨p1, xs, p2, p3⟩ := p
    refine hs i x a H H2 _ (fun H3 => Ex H1 H3 ∧ ∃ xs, H3 D = some (.lst xs) ∧ Paired (Pd H3) xs ((as.take (i + 1)).filter c)) ha p1 ⟨xs, p2⟩ y (fun v H5 e hc hv => ?_) (fun H4 e hc => ?_)
    · have tp : ∀ c o, c ≠ D → H5 c = some o → upd H5 D (.lst (xs ++ [v])) c = some o := fun c o n z => by
        rw [upd_ne n]
        exact z
      refine ⟨xs, e _ _ p2, ?_, ex_upd (ext p1 e) hD, xs ++ [v], upd_same, ?_⟩
      · rw [Paired.length p3]
        refine Nat.lt_of_le_of_lt (Nat.le_trans (List.length_filter_le _ _) ?_) (show 10000000 < sizeLine by decide)
        rw [List.length_take]
        omega
      · rw [take_more ha, List.filter_append, show [a].filter c = [a] by simp [hc]]
        exact paired_snoc (mono _ _ _ _ _ (e _ _ p2) tp hv) (paired_mono (fun v a q => mono _ _ _ _ _ (e _ _ p2) tp (mono _ _ _ _ _ p2 (fun c o _ z => e _ _ z) q)) p3)
    · refine ⟨ext p1 e, xs, e _ _ p2, ?_⟩
      rw [take_more ha, List.filter_append, show [a].filter c = [] by simp [hc], List.append_nil]
      exact paired_mono (fun v a q => mono _ _ _ _ _ p2 (fun c o _ z => e _ _ z) q) p3
  · obtain ⟨p1, xs, p2, p3⟩ := p
    rw [List.take_of_length_le (by omega)] at p3
    exact hd H xs p1 p2 p3
/-- a new list of tuples of ints -/
def PdRows (D : Addr) (H : Hp) (v : V) (row : List (List Int)) : Prop := ∃ a, v = V.ref a ∧ a ≠ D ∧ RowsAt H a row
theorem pdrows_mono {D : Addr} (H H2 : Hp) (v : V) (row : List (List Int)) (ys : List V) (hD : H D = some (.lst ys)) (e : ∀ c o, c ≠ D → H c = some o → H2 c = some o) (h : PdRows D H v row) : PdRows D H2 v row := by
  obtain ⟨a, h1, h2, xs, h3, h4⟩ := h
  exact ⟨a, h1, h2, xs, e _ _ h2 h3, paired_mono (fun v hs ⟨r, q1, q2⟩ => ⟨r, q1, e _ _ (ne_of q2 hD (by intro z; cases z)) q2⟩) h4⟩

/-! ### blocks of groups of targets -/
abbrev Bk := Int × List Int × Int
def pairB (b : Bk) : Bk := (b.1, b.2.1.map (fun x => 2 * x), b.2.2 / 2)
def joinB (a b : Bk) : Bk := ((a.1 + b.1) / 2, List.zipWith (fun x y => x + y) a.2.1 b.2.1, 1)
def sgB (par : Int) (b : Bk) : Bool := decide (b.2.2 % 2 = 1) && decide (b.1 % 2 = par)
def bigB (b : Bk) : Bool := decide (1 < b.2.2)
def joinL (s : List Bk) : List Bk := List.zipWith joinB (CZ.evs s) (CZ.ods s)
def nextB (bs : List Bk) : List Bk := (bs.filter bigB).map pairB ++ joinL (bs.filter (sgB 0)) ++ joinL (bs.filter (sgB 1))
def nextN : Nat → List Bk → List Bk
  | 0, bs => bs
  | k + 1, bs => nextB (nextN k bs)
theorem sum_dbl : ∀ cs : List Int, (cs.map fun x => 2 * x).sum = 2 * cs.sum
  | [] => rfl
  | c :: cs => by
    rw [List.map_cons, List.sum_cons, List.sum_cons, sum_dbl cs]
    omega
theorem sum_zadd : ∀ {a b : List Int}, a.length = b.length → (List.zipWith (fun x y => x + y) a b).sum = a.sum + b.sum
  | [], [], _ => rfl
  | x :: a, y :: b, h => by
    rw [List.zipWith_cons_cons, List.sum_cons, List.sum_cons, List.sum_cons, sum_zadd (by simpa using h)]
    omega
theorem wsum_cons (c t : Int) (cs ts : List Int) : wsum (c :: cs) (t :: ts) = c * t + wsum cs ts := rfl
theorem wsum_dbl : ∀ (cs ts : List Int), wsum (cs.map fun x => 2 * x) ts = 2 * wsum cs ts
  | [], _ => by simp [wsum]
  | _ :: _, [] => by simp [wsum]
  | c :: cs, t :: ts => by
    rw [List.map_cons, wsum_cons, wsum_cons, wsum_dbl cs ts]
    grind
theorem wsum_zadd : ∀ {a b ts : List Int}, a.length = b.length → wsum (List.zipWith (fun x y => x + y) a b) ts = wsum a ts + wsum b ts
  | [], [], _, _ => by simp [wsum]
  | _ :: _, _ :: _, [], _ => by simp [wsum]
  | x :: a, y :: b, t :: ts, h => by
    rw [List.zipWith_cons_cons, wsum_cons, wsum_cons, wsum_cons, wsum_zadd (by simpa using h)]
    grind
theorem sum_zsub : ∀ {a b : List Int}, a.length = b.length → (List.zipWith (fun x y => x - y) a b).sum = a.sum - b.sum
  | [], [], _ => rfl
  | x :: a, y :: b, h => by
    rw [List.zipWith_cons_cons, List.sum_cons, List.sum_cons, List.sum_cons, sum_zsub (by simpa using h)]
    omega
theorem wsum_zsub : ∀ {a b ts : List Int}, a.length = b.length → wsum (List.zipWith (fun x y => x - y) a b) ts = wsum a ts - wsum b ts
  | [], [], _, _ => by simp [wsum]
  | _ :: _, _ :: _, [], _ => by simp [wsum]
  | x :: a, y :: b, t :: ts, h => by
    rw [List.zipWith_cons_cons, wsum_cons, wsum_cons, wsum_cons, wsum_zsub (by simpa using h)]
    grind
structure GoodB (ts : List Int) (j : Nat) (b : Bk) : Prop where
  len : b.2.1.length = ts.length
  pos : ∀ x ∈ b.2.1, 0 ≤ x
  num : 1 ≤ b.2.2
  sum : b.2.1.sum = 2 ^ j
  mean : wsum b.2.1 ts = 2 ^ j * b.1
theorem GoodB.pair {ts : List Int} {j : Nat} {b : Bk} (g : GoodB ts j b) (h : bigB b = true) : GoodB ts (j + 1) (pairB b) := by
  obtain ⟨m, cs, k⟩ := b
  have h : 1 < k := of_decide_eq_true h
  refine ⟨?_, fun x hx => ?_, ?_, ?_, ?_⟩
  · show (cs.map _).length = _
    rw [List.length_map]
    exact g.len
  · obtain ⟨y, hy, rfl⟩ := List.mem_map.mp hx
    have := g.pos y hy
    omega
  · show 1 ≤ k / 2
    omega
  · show (cs.map _).sum = _
    rw [sum_dbl, show cs.sum = 2 ^ j from g.sum, Int.pow_succ]
    omega
  · show wsum (cs.map _) ts = _
    rw [wsum_dbl, show wsum cs ts = 2 ^ j * m from g.mean, Int.pow_succ]
    show _ = _ * m
    grind
theorem GoodB.join {ts : List Int} {j : Nat} {a b : Bk} (g : GoodB ts j a) (h : GoodB ts j b) (par : a.1 % 2 = b.1 % 2) : GoodB ts (j + 1) (joinB a b) := by
  obtain ⟨m, cs, k⟩ := a
  obtain ⟨n, ds, l⟩ := b
  have e1 : cs.length = ts.length := g.len
  have e2 : ds.length = ts.length := h.len
  have par : m % 2 = n % 2 := par
  refine ⟨?_, fun x hx => ?_, ?_, ?_, ?_⟩
  · show (List.zipWith _ cs ds).length = _
    rw [List.length_zipWith, e1, e2, Nat.min_self]
  · obtain ⟨i, hi⟩ := List.getElem?_of_mem hx
    rw [show (joinB (m, cs, k) (n, ds, l)).2.1 = List.zipWith (fun x y => x + y) cs ds from rfl, List.getElem?_zipWith] at hi
    cases h1 : cs[i]? with
    | none => rw [h1] at hi; cases hi
    | some u =>
      cases h2 : ds[i]? with
      | none => rw [h1, h2] at hi; cases hi
      | some v =>
        rw [h1, h2] at hi
        obtain rfl : u + v = x := Option.some.inj hi
        have q1 := g.pos u (List.mem_of_getElem? h1)
        have q2 := h.pos v (List.mem_of_getElem? h2)
        omega
  · exact Int.le_refl _
  · show (List.zipWith _ cs ds).sum = _
    rw [sum_zadd (e1.trans e2.symm), show cs.sum = 2 ^ j from g.sum, show ds.sum = 2 ^ j from h.sum, Int.pow_succ]
    omega
  · show wsum (List.zipWith _ cs ds) ts = _ * ((m + n) / 2)
    rw [wsum_zadd (e1.trans e2.symm), show wsum cs ts = 2 ^ j * m from g.mean, show wsum ds ts = 2 ^ j * n from h.mean, Int.pow_succ]
    obtain ⟨q, hq⟩ : ∃ q, m + n = 2 * q := ⟨(m + n) / 2, by omega⟩
    rw [hq, Int.mul_ediv_cancel_left _ (by decide), ← Int.mul_add, hq]
    grind
theorem joinL_two (a b : Bk) (r : List Bk) : joinL (a :: b :: r) = joinB a b :: joinL r := by
  unfold joinL
  have e : CZ.ods (a :: b :: r) = b :: CZ.ods r := by cases r <;> rfl
  rw [e]
  rfl
theorem joinL_nil : joinL [] = [] := rfl
theorem joinL_one (a : Bk) : joinL [a] = [] := rfl
/-- what holds of all pairs of a list holds of all that is joined -/
theorem joinL_all {P Q : Bk → Prop} (hj : ∀ a b, P a → P b → Q (joinB a b)) : ∀ (n : Nat) (s : List Bk), s.length ≤ n → (∀ b ∈ s, P b) → ∀ b ∈ joinL s, Q b
  | _, [], _, _, b, hb => nomatch hb
  | _, [a], _, _, b, hb => nomatch hb
  | 0, _ :: _ :: _, h, _, _, _ => by simp at h
  | n + 1, a :: b :: r, h, hp, c, hc => by
    rw [joinL_two] at hc
    rcases List.mem_cons.mp hc with rfl | hc
    · exact hj a b (hp a List.mem_cons_self) (hp b (List.mem_cons_of_mem _ List.mem_cons_self))
    · exact joinL_all hj n r (by simp only [List.length_cons] at h; omega) (fun x hx => hp x (List.mem_cons_of_mem _ (List.mem_cons_of_mem _ hx))) c hc
theorem joinL_len (s : List Bk) : (joinL s).length = s.length / 2 := by
  unfold joinL
  rw [List.length_zipWith, CZ.evs_len, CZ.ods_len]
  omega
theorem joinL_le {h : Bk → Int} {P : Bk → Prop} (h0 : ∀ b, P b → 0 ≤ h b) (hj : ∀ a b, P a → P b → h (joinB a b) = h a + h b) : ∀ (n : Nat) (s : List Bk), s.length ≤ n → (∀ b ∈ s, P b) → ((joinL s).map h).sum ≤ (s.map h).sum
  | _, [], _, _ => Int.le_refl _
  | _, [a], _, hp => by
    have := h0 a (hp a List.mem_cons_self)
    rw [joinL_one, List.map_cons, List.sum_cons, List.map_nil, List.sum_nil]
    omega
  | 0, _ :: _ :: _, h, _ => by simp at h
  | n + 1, a :: b :: r, hl, hp => by
    have ih := joinL_le h0 hj n r (by simp only [List.length_cons] at hl; omega) (fun x hx => hp x (List.mem_cons_of_mem _ (List.mem_cons_of_mem _ hx)))
    rw [joinL_two, List.map_cons, List.sum_cons, hj a b (hp a List.mem_cons_self) (hp b (List.mem_cons_of_mem _ List.mem_cons_self)), List.map_cons, List.sum_cons, List.map_cons, List.sum_cons]
    omega
theorem mem_next {bs : List Bk} {b : Bk} (h : b ∈ nextB bs) : b ∈ (bs.filter bigB).map pairB ∨ b ∈ joinL (bs.filter (sgB 0)) ∨ b ∈ joinL (bs.filter (sgB 1)) := by
  unfold nextB at h
  rcases List.mem_append.mp h with h | h
  · rcases List.mem_append.mp h with h | h
    · exact .inl h
    · exact .inr (.inl h)
  · exact .inr (.inr h)
theorem good_join {ts : List Int} {j : Nat} {bs : List Bk} (par : Int) (g : ∀ b ∈ bs, GoodB ts j b) : ∀ b ∈ joinL (bs.filter (sgB par)), GoodB ts (j + 1) b := by
  refine joinL_all (P := fun b => GoodB ts j b ∧ b.1 % 2 = par) (fun a b ha hb => ha.1.join hb.1 (ha.2.trans hb.2.symm)) _ _ (Nat.le_refl _) fun b hb => ?_
  obtain ⟨h1, h2⟩ := List.mem_filter.mp hb
  unfold sgB at h2
  rw [Bool.and_eq_true, decide_eq_true_iff, decide_eq_true_iff] at h2
  exact ⟨g b h1, h2.2⟩
theorem good_next {ts : List Int} {j : Nat} {bs : List Bk} (g : ∀ b ∈ bs, GoodB ts j b) : ∀ b ∈ nextB bs, GoodB ts (j + 1) b := fun b hb => by
  rcases mem_next hb with h | h | h
  · obtain ⟨a, ha, rfl⟩ := List.mem_map.mp h
    obtain ⟨h1, h2⟩ := List.mem_filter.mp ha
    exact (g a h1).pair h2
  · exact good_join 0 g b h
  · exact good_join 1 g b h
def grp (bs : List Bk) : Int := (bs.map fun b => b.2.2).sum
theorem sum_app {α : Type} (f : α → Int) (xs ys : List α) : ((xs ++ ys).map f).sum = (xs.map f).sum + (ys.map f).sum := by
  rw [List.map_append, List.sum_append]
theorem grp_split : ∀ {bs : List Bk}, (∀ b ∈ bs, 1 ≤ b.2.2) → grp bs ≤ 2 * grp ((bs.filter bigB).map pairB) + ((bs.filter (sgB 0)).length : Int) + ((bs.filter (sgB 1)).length : Int)
  | [], _ => by simp [grp]
  | b :: bs, h => by
    have ih := grp_split (bs := bs) fun x hx => h x (List.mem_cons_of_mem _ hx)
    have h1 := h b List.mem_cons_self
    unfold grp at ih ⊢
    rw [List.map_cons, List.sum_cons]
    have e0 : ((b :: bs).filter (sgB 0)).length = (bs.filter (sgB 0)).length + (if b.2.2 % 2 = 1 ∧ b.1 % 2 = 0 then 1 else 0) := by
      rw [List.filter_cons]
      by_cases c : b.2.2 % 2 = 1 ∧ b.1 % 2 = 0
      · rw [if_pos (by simp [sgB, c]), if_pos c, List.length_cons]
      · rw [if_neg (by simp only [sgB, Bool.and_eq_true, decide_eq_true_iff]; exact c), if_neg c, Nat.add_zero]
    have e1 : ((b :: bs).filter (sgB 1)).length = (bs.filter (sgB 1)).length + (if b.2.2 % 2 = 1 ∧ b.1 % 2 = 1 then 1 else 0) := by
      rw [List.filter_cons]
      by_cases c : b.2.2 % 2 = 1 ∧ b.1 % 2 = 1
      · rw [if_pos (by simp [sgB, c]), if_pos c, List.length_cons]
      · rw [if_neg (by simp only [sgB, Bool.and_eq_true, decide_eq_true_iff]; exact c), if_neg c, Nat.add_zero]
    have e2 : ((((b :: bs).filter bigB).map pairB).map fun b => b.2.2).sum = (((bs.filter bigB).map pairB).map fun b => b.2.2).sum + (if 1 < b.2.2 then b.2.2 / 2 else 0) := by
      rw [List.filter_cons]
      by_cases c : 1 < b.2.2
      · rw [if_pos (by simp [bigB, c]), if_pos c, List.map_cons, List.map_cons, List.sum_cons]
        show b.2.2 / 2 + _ = _
        omega
      · rw [if_neg (by simp only [bigB, decide_eq_true_iff]; exact c), if_neg c]
        omega
    rw [e0, e1, e2]
    split <;> split <;> split <;> omega
theorem sum_ge_len : ∀ {bs : List Bk}, (∀ b ∈ bs, 1 ≤ b.2.2) → (bs.length : Int) ≤ grp bs
  | [], _ => by simp [grp]
  | b :: bs, h => by
    have ih := sum_ge_len (bs := bs) fun x hx => h x (List.mem_cons_of_mem _ hx)
    have := h b List.mem_cons_self
    unfold grp at ih ⊢
    rw [List.map_cons, List.sum_cons, List.length_cons]
    omega
theorem grp_next {bs : List Bk} {m : Nat} (h : ∀ b ∈ bs, 1 ≤ b.2.2) (big : (2 : Int) ^ (m + 1) - 1 ≤ grp bs) : (2 : Int) ^ m - 1 ≤ grp (nextB bs) := by
  have e := grp_split h
  have j1 : ∀ par, ∀ b ∈ joinL (bs.filter (sgB par)), 1 ≤ b.2.2 := fun par => joinL_all (P := fun _ => True) (fun a b _ _ => Int.le_refl _) _ _ (Nat.le_refl _) fun _ _ => True.intro
  have q0 := sum_ge_len (j1 0)
  have q1 := sum_ge_len (j1 1)
  rw [joinL_len] at q0 q1
  have en : grp (nextB bs) = grp ((bs.filter bigB).map pairB) + grp (joinL (bs.filter (sgB 0))) + grp (joinL (bs.filter (sgB 1))) := by
    unfold grp nextB
    rw [sum_app, sum_app]
  rw [Int.pow_succ] at big
  omega
/-- how much of a place all groups hold -/
def wgt (g : List Int → Int) (bs : List Bk) : Int := (bs.map fun b => b.2.2 * g b.2.1).sum
structure LinG (n : Nat) (g : List Int → Int) : Prop where
  nn : ∀ cs, (∀ x ∈ cs, 0 ≤ x) → 0 ≤ g cs
  dbl : ∀ cs : List Int, g (cs.map fun x => 2 * x) = 2 * g cs
  add : ∀ a b : List Int, a.length = n → b.length = n → g (List.zipWith (fun x y => x + y) a b) = g a + g b
theorem lin_at (n i : Nat) : LinG n fun l => l.getD i 0 where
  nn := fun cs h => by
    rw [List.getD_eq_getElem?_getD]
    cases e : cs[i]? with
    | none => exact Int.le_refl _
    | some x => exact h x (List.mem_of_getElem? e)
  dbl := fun cs => by
    rw [List.getD_eq_getElem?_getD, List.getD_eq_getElem?_getD, List.getElem?_map]
    cases cs[i]? <;> rfl
  add := fun a b ha hb => by
    rw [List.getD_eq_getElem?_getD, List.getD_eq_getElem?_getD, List.getD_eq_getElem?_getD, List.getElem?_zipWith]
    by_cases h : i < n
    · rw [List.getElem?_eq_getElem (by omega), List.getElem?_eq_getElem (by omega)]
      rfl
    · rw [List.getElem?_eq_none (by omega), List.getElem?_eq_none (by omega)]
      rfl
theorem wgt_next {ts : List Int} {j : Nat} {bs : List Bk} {g : List Int → Int} (L : LinG ts.length g) (gd : ∀ b ∈ bs, GoodB ts j b) : wgt g (nextB bs) ≤ wgt g bs := by
  have en : wgt g (nextB bs) = wgt g ((bs.filter bigB).map pairB) + wgt g (joinL (bs.filter (sgB 0))) + wgt g (joinL (bs.filter (sgB 1))) := by
    unfold wgt nextB
    rw [sum_app, sum_app]
  have one : ∀ par, wgt g (joinL (bs.filter (sgB par))) ≤ ((bs.filter (sgB par)).map fun b => g b.2.1).sum := fun par => by
    have e1 : wgt g (joinL (bs.filter (sgB par))) = ((joinL (bs.filter (sgB par))).map fun b => g b.2.1).sum := by
      have : ∀ l : List Bk, (∀ b ∈ l, b.2.2 = 1) → wgt g l = (l.map fun b => g b.2.1).sum := fun l h => by
        unfold wgt
        refine congrArg List.sum (List.map_congr_left fun b hb => ?_)
        rw [h b hb, Int.one_mul]
      exact this _ (joinL_all (P := fun _ => True) (fun a b _ _ => rfl) _ _ (Nat.le_refl _) fun _ _ => True.intro)
    rw [e1]
    exact joinL_le (P := fun b => GoodB ts j b) (h := fun b => g b.2.1) (fun b hb => L.nn _ hb.pos) (fun a b ha hb => L.add _ _ ha.len hb.len) _ _ (Nat.le_refl _) fun b hb => gd b (List.mem_filter.mp hb).1
  have q0 := one 0
  have q1 := one 1
  have sp : wgt g ((bs.filter bigB).map pairB) + ((bs.filter (sgB 0)).map fun b => g b.2.1).sum + ((bs.filter (sgB 1)).map fun b => g b.2.1).sum ≤ wgt g bs := by
    clear en one q0 q1
    induction bs with
    | nil => exact Int.le_refl _
    | cons b bs ih =>
      have ih := ih fun x hx => gd x (List.mem_cons_of_mem _ hx)
      have gb := gd b List.mem_cons_self
      have g0 := L.nn _ gb.pos
      have n1 := gb.num
      have e0 : (((b :: bs).filter (sgB 0)).map fun b => g b.2.1).sum = ((bs.filter (sgB 0)).map fun b => g b.2.1).sum + (if b.2.2 % 2 = 1 ∧ b.1 % 2 = 0 then g b.2.1 else 0) := by
        rw [List.filter_cons]
        by_cases c : b.2.2 % 2 = 1 ∧ b.1 % 2 = 0
        · rw [if_pos (by simp [sgB, c]), if_pos c, List.map_cons, List.sum_cons]
          omega
        · rw [if_neg (by simp only [sgB, Bool.and_eq_true, decide_eq_true_iff]; exact c), if_neg c, Int.add_zero]
      have e1 : (((b :: bs).filter (sgB 1)).map fun b => g b.2.1).sum = ((bs.filter (sgB 1)).map fun b => g b.2.1).sum + (if b.2.2 % 2 = 1 ∧ b.1 % 2 = 1 then g b.2.1 else 0) := by
        rw [List.filter_cons]
        by_cases c : b.2.2 % 2 = 1 ∧ b.1 % 2 = 1
        · rw [if_pos (by simp [sgB, c]), if_pos c, List.map_cons, List.sum_cons]
          omega
        · rw [if_neg (by simp only [sgB, Bool.and_eq_true, decide_eq_true_iff]; exact c), if_neg c, Int.add_zero]
      have e2 : wgt g (((b :: bs).filter bigB).map pairB) = wgt g ((bs.filter bigB).map pairB) + (if 1 < b.2.2 then b.2.2 / 2 * (2 * g b.2.1) else 0) := by
        unfold wgt
        rw [List.filter_cons]
        by_cases c : 1 < b.2.2
        · rw [if_pos (by simp [bigB, c]), if_pos c, List.map_cons, List.map_cons, List.sum_cons]
          show b.2.2 / 2 * g (b.2.1.map fun x => 2 * x) + _ = _
          rw [L.dbl]
          omega
        · rw [if_neg (by simp only [bigB, decide_eq_true_iff]; exact c), if_neg c]
          omega
      have e3 : wgt g (b :: bs) = b.2.2 * g b.2.1 + wgt g bs := by
        unfold wgt
        rw [List.map_cons, List.sum_cons]
      rw [e0, e1, e2, e3]
      have key : (if 1 < b.2.2 then b.2.2 / 2 * (2 * g b.2.1) else 0) + (if b.2.2 % 2 = 1 ∧ b.1 % 2 = 0 then g b.2.1 else 0) + (if b.2.2 % 2 = 1 ∧ b.1 % 2 = 1 then g b.2.1 else 0) ≤ b.2.2 * g b.2.1 := by
        generalize g b.2.1 = v at g0
        generalize b.2.2 = k at n1
        have ed : k = 2 * (k / 2) + k % 2 := by omega
        have ek : k * v = k / 2 * (2 * v) + k % 2 * v := by
          conv => lhs; rw [ed]
          grind
        have h2 : k % 2 = 0 ∨ k % 2 = 1 := by omega
        rw [ek]
        rcases h2 with h2 | h2
        · have z : (if 1 < k then k / 2 * (2 * v) else 0) ≤ k / 2 * (2 * v) := by
            split
            · exact Int.le_refl _
            · exact Int.mul_nonneg (by omega) (by omega)
          rw [h2, Int.zero_mul]
          split <;> split <;> omega
        · rw [h2, Int.one_mul]
          have z : (if 1 < k then k / 2 * (2 * v) else 0) ≤ k / 2 * (2 * v) := by
            split
            · exact Int.le_refl _
            · exact Int.mul_nonneg (by omega) (by omega)
          split <;> split <;> omega
      omega
  omega
/-- the first blocks -/
def unitL (n k : Nat) : List Int := (List.range n).map fun o => if o = k then 1 else 0
def initB (ts cs : List Int) (m : Nat) : List Bk := ((List.range m).filter fun k => decide (0 < cs.getD k 0)).map fun k => (ts.getD k 0, unitL ts.length k, cs.getD k 0)
theorem init_snoc (ts cs : List Int) (m : Nat) : initB ts cs (m + 1) = initB ts cs m ++ if 0 < cs.getD m 0 then [(ts.getD m 0, unitL ts.length m, cs.getD m 0)] else [] := by
  unfold initB
  rw [List.range_succ, List.filter_append, List.map_append]
  congr 1
  by_cases c : 0 < cs.getD m 0
  · rw [if_pos c, List.filter_cons, if_pos (by simpa using c)]
    rfl
  · rw [if_neg c, List.filter_cons, if_neg (by simpa using c)]
    rfl
theorem unit_w (k : Nat) : ∀ (ts : List Int) (s : Nat), (List.zipWith (fun w x => w * x) ((List.range' s ts.length).map fun o => if o = k then (1 : Int) else 0) ts).sum = if s ≤ k then ts.getD (k - s) 0 else 0
  | [], s => by
    split <;> rfl
  | t :: ts, s => by
    rw [List.length_cons, List.range'_succ, List.map_cons, List.zipWith_cons_cons, List.sum_cons, unit_w k ts (s + 1)]
    by_cases c : s = k
    · subst c
      rw [if_pos rfl, if_neg (by omega), if_pos (Nat.le_refl _), Nat.sub_self]
      show 1 * t + 0 = t
      omega
    · rw [if_neg c, Int.zero_mul, Int.zero_add]
      by_cases d : s + 1 ≤ k
      · rw [if_pos d, if_pos (by omega), show k - s = k - (s + 1) + 1 by omega]
        rfl
      · rw [if_neg d, if_neg (by omega)]
theorem unit_at (n k i : Nat) (hi : i < n) : (unitL n k).getD i 0 = if i = k then 1 else 0 := by
  unfold unitL
  rw [List.getD_eq_getElem?_getD, List.getElem?_map, List.getElem?_range hi]
  rfl
theorem unit_sum (n k : Nat) (hk : k < n) : (unitL n k).sum = 1 := by
  have h := unit_w k (List.replicate n 1) 0
  rw [List.length_replicate, if_pos (Nat.zero_le _)] at h
  have e : List.zipWith (fun w x => w * x) ((List.range' 0 n).map fun o => if o = k then (1 : Int) else 0) (List.replicate n 1) = unitL n k := by
    refine List.ext_getElem? fun i => ?_
    unfold unitL
    rw [List.getElem?_zipWith, ← List.range_eq_range', List.getElem?_map]
    by_cases c : i < n
    · rw [List.getElem?_range c, List.getElem?_replicate, if_pos c]
      show some (_ * (1 : Int)) = _
      rw [Int.mul_one]
      rfl
    · rw [List.getElem?_eq_none (by rw [List.length_range]; omega)]
      rfl
  rw [e] at h
  rw [h, List.getD_eq_getElem?_getD, List.getElem?_replicate, if_pos (by omega)]
  rfl
theorem init_good {ts cs : List Int} {m : Nat} (hm : m ≤ ts.length) : ∀ b ∈ initB ts cs m, GoodB ts 0 b := fun b hb => by
  obtain ⟨k, hk, rfl⟩ := List.mem_map.mp hb
  obtain ⟨h1, h2⟩ := List.mem_filter.mp hk
  have h1 := List.mem_range.mp h1
  have h2 : 0 < cs.getD k 0 := of_decide_eq_true h2
  refine ⟨by simp [unitL], fun x hx => ?_, by show 1 ≤ cs.getD k 0; omega, ?_, ?_⟩
  · obtain ⟨o, _, rfl⟩ := List.mem_map.mp hx
    split <;> decide
  · exact unit_sum _ _ (by omega)
  · have h := unit_w k ts 0
    rw [if_pos (Nat.zero_le _), ← List.range_eq_range'] at h
    show wsum (unitL ts.length k) ts = 2 ^ 0 * ts.getD k 0
    rw [Int.pow_zero, Int.one_mul]
    exact h
theorem init_grp {ts cs : List Int} (pos : ∀ x ∈ cs, 0 ≤ x) : ∀ {m : Nat}, m ≤ cs.length → grp (initB ts cs m) = (cs.take m).sum
  | 0, _ => rfl
  | m + 1, h => by
    have ih := init_grp pos (ts := ts) (m := m) (by omega)
    have hm : cs[m]? = some cs[m] := List.getElem?_eq_getElem (by omega)
    have p0 := pos _ (List.mem_of_getElem? hm)
    have ed : cs.getD m 0 = cs[m] := by rw [List.getD_eq_getElem?_getD, hm]; rfl
    rw [init_snoc, take_more hm, List.sum_append, ← ih, ed]
    unfold grp
    rw [sum_app]
    by_cases c : 0 < cs[m]
    · rw [if_pos c]
      rfl
    · rw [if_neg c]
      have : cs[m] = 0 := by omega
      rw [this]
      rfl
theorem init_wgt {ts cs : List Int} (i : Nat) (hi : i < ts.length) (pos : ∀ x ∈ cs, 0 ≤ x) : ∀ {m : Nat}, m ≤ cs.length → wgt (fun l => l.getD i 0) (initB ts cs m) = if i < m then cs.getD i 0 else 0
  | 0, _ => rfl
  | m + 1, h => by
    have ih := init_wgt i hi pos (m := m) (by omega)
    have hm : cs[m]? = some cs[m] := List.getElem?_eq_getElem (by omega)
    have p0 := pos _ (List.mem_of_getElem? hm)
    have ed : cs.getD m 0 = cs[m] := by rw [List.getD_eq_getElem?_getD, hm]; rfl
    rw [init_snoc]
    unfold wgt at ih ⊢
    rw [sum_app, ih]
    have e1 : (((if 0 < cs.getD m 0 then [(ts.getD m 0, unitL ts.length m, cs.getD m 0)] else []) : List Bk).map fun b => b.2.2 * b.2.1.getD i 0).sum = if i = m then cs.getD m 0 else 0 := by
      by_cases c : 0 < cs.getD m 0
      · rw [if_pos c, List.map_cons, List.map_nil, List.sum_cons, List.sum_nil]
        show cs.getD m 0 * (unitL ts.length m).getD i 0 + 0 = _
        rw [unit_at _ _ _ hi]
        split
        · omega
        · omega
      · rw [if_neg c]
        split
        · show (0 : Int) = _
          omega
        · rfl
    rw [e1]
    by_cases c : i < m
    · rw [if_pos c, if_neg (by omega), if_pos (by omega), Int.add_zero]
    · rw [if_neg c]
      by_cases d : i = m
      · subst d
        rw [if_pos rfl, if_pos (by omega), Int.zero_add]
      · rw [if_neg d, if_neg (by omega), Int.add_zero]
/-- how many blocks there are -/
theorem next_len {bs : List Bk} {n : Nat} (h1 : (bs.filter bigB).length ≤ n) (h2 : bs.length ≤ 2 * n) : ((nextB bs).filter bigB).length ≤ n ∧ (nextB bs).length ≤ 2 * n := by
  have jn : ∀ par, (joinL (bs.filter (sgB par))).filter bigB = [] := fun par => by
    refine List.filter_eq_nil_iff.mpr fun b hb => ?_
    have := joinL_all (P := fun _ => True) (Q := fun b => b.2.2 = 1) (fun a b _ _ => rfl) _ _ (Nat.le_refl _) (fun _ _ => True.intro) b hb
    simp [bigB, this]
  have two : ∀ l : List Bk, (l.filter (sgB 0)).length + (l.filter (sgB 1)).length ≤ l.length := fun l => by
    induction l with
    | nil => simp
    | cons b l ih =>
      rw [List.filter_cons, List.filter_cons, List.length_cons]
      by_cases c : sgB 0 b = true
      · have d : ¬ sgB 1 b = true := fun d => by
          simp only [sgB, Bool.and_eq_true, decide_eq_true_iff] at c d
          omega
        rw [if_pos c, if_neg d, List.length_cons]
        omega
      · rw [if_neg c]
        split
        · rw [List.length_cons]; omega
        · omega
  have := two bs
  constructor
  · unfold nextB
    rw [List.filter_append, List.filter_append, jn, jn, List.append_nil, List.append_nil]
    exact Nat.le_trans (List.length_filter_le _ _) (by rw [List.length_map]; exact h1)
  · unfold nextB
    rw [List.length_append, List.length_append, List.length_map, joinL_len, joinL_len]
    omega
structure BlkAt (ts cs : List Int) (d j : Nat) (bs : List Bk) : Prop where
  good : ∀ b ∈ bs, GoodB ts j b
  grps : (2 : Int) ^ (d - j) - 1 ≤ grp bs
  wgts : ∀ i, i < ts.length → wgt (fun l => l.getD i 0) bs ≤ cs.getD i 0
  big : (bs.filter bigB).length ≤ ts.length
  len : bs.length ≤ 2 * ts.length
theorem blk_init {ts cs : List Int} {d : Nat} (hl : cs.length = ts.length) (pos : ∀ x ∈ cs, 0 ≤ x) (es : cs.sum = 2 ^ d) : BlkAt ts cs d 0 (initB ts cs ts.length) where
  good := init_good (Nat.le_refl _)
  grps := by
    rw [init_grp pos (Nat.le_of_eq hl.symm), ← hl, List.take_length, es]
    show (2 : Int) ^ (d - 0) - 1 ≤ 2 ^ d
    rw [Nat.sub_zero]
    omega
  wgts := fun i hi => by
    rw [init_wgt i hi pos (Nat.le_of_eq hl.symm), if_pos hi]
    exact Int.le_refl _
  big := Nat.le_trans (List.length_filter_le _ _) (by
    unfold initB
    rw [List.length_map]
    exact Nat.le_trans (List.length_filter_le _ _) (by rw [List.length_range]; exact Nat.le_refl _))
  len := by
    unfold initB
    rw [List.length_map]
    exact Nat.le_trans (List.length_filter_le _ _) (by rw [List.length_range]; omega)
theorem BlkAt.next {ts cs : List Int} {d j : Nat} {bs : List Bk} (h : BlkAt ts cs d j bs) (hj : j < d) : BlkAt ts cs d (j + 1) (nextB bs) where
  good := good_next h.good
  grps := grp_next (fun b hb => (h.good b hb).num) (by rw [show d - (j + 1) + 1 = d - j by omega]; exact h.grps)
  wgts := fun i hi => Int.le_trans (wgt_next (lin_at _ i) h.good) (h.wgts i hi)
  big := (next_len h.big h.len).1
  len := (next_len h.big h.len).2
theorem BlkAt.head {ts cs : List Int} {d : Nat} {bs : List Bk} (h : BlkAt ts cs (d + 1) d bs) : ∃ b r, bs = b :: r ∧ GoodB ts d b ∧ ∀ i, i < ts.length → b.2.1.getD i 0 ≤ cs.getD i 0 := by
  cases bs with
  | nil =>
    have := h.grps
    rw [show d + 1 - d = 1 by omega] at this
    exact absurd this (by decide)
  | cons b r =>
    refine ⟨b, r, rfl, h.good b List.mem_cons_self, fun i hi => ?_⟩
    have q := h.wgts i hi
    have gb := h.good b List.mem_cons_self
    have e : wgt (fun l => l.getD i 0) (b :: r) = b.2.2 * b.2.1.getD i 0 + wgt (fun l => l.getD i 0) r := by
      unfold wgt
      rw [List.map_cons, List.sum_cons]
    have nnr : ∀ l : List Bk, (∀ b ∈ l, GoodB ts d b) → 0 ≤ wgt (fun l => l.getD i 0) l := fun l hl => by
      induction l with
      | nil => exact Int.le_refl _
      | cons a l ih =>
        have e2 : wgt (fun l => l.getD i 0) (a :: l) = a.2.2 * a.2.1.getD i 0 + wgt (fun l => l.getD i 0) l := by
          unfold wgt
          rw [List.map_cons, List.sum_cons]
        have ga := hl a List.mem_cons_self
        have := ih fun x hx => hl x (List.mem_cons_of_mem _ hx)
        have := Int.mul_nonneg (show 0 ≤ a.2.2 by have := ga.num; omega) ((lin_at ts.length i).nn _ ga.pos)
        rw [e2]
        omega
    have r0 := nnr r fun x hx => h.good x (List.mem_cons_of_mem _ hx)
    have b0 : 0 ≤ b.2.1.getD i 0 := (lin_at ts.length i).nn _ gb.pos
    have b1 := Int.mul_le_mul_of_nonneg_right gb.num b0
    rw [Int.one_mul] at b1
    omega
theorem sub_pos {cs ds : List Int} (hl : cs.length = ds.length) (h : ∀ i, i < ds.length → ds.getD i 0 ≤ cs.getD i 0) : ∀ x ∈ List.zipWith (fun x y => x - y) cs ds, 0 ≤ x := fun x hx => by
  obtain ⟨i, hi⟩ := List.getElem?_of_mem hx
  rw [List.getElem?_zipWith] at hi
  cases h1 : cs[i]? with
  | none => rw [h1] at hi; cases hi
  | some u =>
    cases h2 : ds[i]? with
    | none => rw [h1, h2] at hi; cases hi
    | some v =>
      rw [h1, h2] at hi
      obtain rfl : u - v = x := Option.some.inj hi
      have := h i (List.getElem?_eq_some_iff.mp h2).1
      rw [List.getD_eq_getElem?_getD, List.getD_eq_getElem?_getD, h1, h2] at this
      have : v ≤ u := this
      omega

/-- a block stands at a; its counts are not the list D -/
def BlkO (C : Addr) (H : Hp) (a : Addr) (b : Bk) : Prop := ∃ dx c, H a = some (.ins C dx [("mean", .int b.1), ("counts", .ref c), ("number", .int b.2.2)]) ∧ H c = some (.lst (b.2.1.map V.int))
theorem BlkO.mono {C a : Addr} {H H2 : Hp} {b : Bk} (e : Ex H H2) (h : BlkO C H a b) : BlkO C H2 a b := by
  obtain ⟨dx, c, h1, h2⟩ := h
  exact ⟨dx, c, e _ _ h1, e _ _ h2⟩
def PdBk (C : Addr) (Ds : List Addr) (H : Hp) (v : V) (b : Bk) : Prop := ∃ a dx c, v = .ref a ∧ H a = some (.ins C dx [("mean", .int b.1), ("counts", .ref c), ("number", .int b.2.2)]) ∧ (∀ z ∈ Ds, c ≠ z) ∧ H c = some (.lst (b.2.1.map V.int))
theorem pdbk_mono {C D : Addr} {Ds : List Addr} (m : D ∈ Ds) (H H2 : Hp) (v : V) (b : Bk) (ys : List V) (hD : H D = some (.lst ys)) (e : ∀ c o, c ≠ D → H c = some o → H2 c = some o) (h : PdBk C Ds H v b) : PdBk C Ds H2 v b := by
  obtain ⟨a, dx, c, h1, h2, h3, h4⟩ := h
  exact ⟨a, dx, c, h1, e _ _ (ne_of h2 hD (by intro z; cases z)) h2, h3, e _ _ (h3 D m) h4⟩
theorem PdBk.ex {C : Addr} {Ds : List Addr} {H H2 : Hp} {v : V} {b : Bk} (e : Ex H H2) (h : PdBk C Ds H v b) : PdBk C Ds H2 v b := by
  obtain ⟨a, dx, c, h1, h2, h3, h4⟩ := h
  exact ⟨a, dx, c, h1, e _ _ h2, h3, e _ _ h4⟩
theorem PdBk.less {C : Addr} {Ds Es : List Addr} {H : Hp} {v : V} {b : Bk} (s : ∀ z ∈ Es, z ∈ Ds) (h : PdBk C Ds H v b) : PdBk C Es H v b := by
  obtain ⟨a, dx, c, h1, h2, h3, h4⟩ := h
  exact ⟨a, dx, c, h1, h2, fun z hz => h3 z (s z hz), h4⟩
/-- a list of blocks -/
def BlksR (C : Addr) (H : Hp) (xs : List V) (bs : List Bk) : Prop := Paired (fun x b => ∃ a, x = .ref a ∧ BlkO C H a b) xs bs
theorem BlksR.mono {C : Addr} {H H2 : Hp} {xs : List V} {bs : List Bk} (e : Ex H H2) (h : BlksR C H xs bs) : BlksR C H2 xs bs := paired_mono (fun _ _ ⟨a, q1, q2⟩ => ⟨a, q1, q2.mono e⟩) h
theorem pdbk_all {C : Addr} {D : List Addr} {H : Hp} {xs : List V} {bs : List Bk} (h : Paired (PdBk C D H) xs bs) : BlksR C H xs bs := paired_mono (fun _ _ ⟨a, dx, c, h1, h2, _, h4⟩ => ⟨a, h1, dx, c, h2, h4⟩) h
section
variable {P : Program} {w : World} {K : PySem.W.Frag} {mg : Str → Option Value} {base : Heap}
def sp_Block_init (C : Addr) : Sp := fun vs H Q _ => ∃ (p dx c : Addr) (m k : Int), vs = [.ref p, .int m, .ref c, .int k] ∧ H p = some (.ins C dx []) ∧
  ∀ H2, (∀ c o, c ≠ p → H c = some o → H2 c = some o) → H2 p = some (.ins C dx [("mean", .int m), ("counts", .ref c), ("number", .int k)]) → Q .non H2
theorem ok_Block_init (T : TX K mg) : FnOk P w K mg base CX0 1 T.f_Block_init T.fd_Block_init ["self", "mean", "counts", "number"] (sp_Block_init T.C_Block) := by
  refine T.F_Block_init.ok sc_Block_init (fun vs H Q E h => ?_) (fun cdv A outer s H vs Q E hr h => ?_)
  · obtain ⟨p, dx, c, m, k, rfl, _⟩ := h
    rfl
  · obtain ⟨p, dx, c, m, k, rfl, hp, kk⟩ := h
    refine ⟨_, (pss_cons (ps_fld (pv 0) (pv 1) rfl) (pss_cons (ps_fld (pv 0) (pv 2) rfl) (pss_one (ps_fld (pv 0) (pv 3) rfl)))), ?_⟩
    refine ⟨_, rfl, _, rfl, p, T.C_Block, dx, [], rfl, hp, T.cl_Block, T.n_Block_mean, (by decide), ?_⟩
    refine ⟨_, rfl, _, rfl, p, T.C_Block, dx, _, rfl, upd_same, T.cl_Block, T.n_Block_counts, (by show 1 < 1000; decide), ?_⟩
    refine ⟨_, rfl, _, rfl, p, T.C_Block, dx, _, rfl, upd_same, T.cl_Block, T.n_Block_number, (by show 2 < 1000; decide), ?_⟩
    refine kk _ (fun c o hc z => ?_) upd_same
    rw [upd_ne hc, upd_ne hc, upd_ne hc]
    exact z
/-- Block(..) -/
theorem mk_blk {C c : Addr} {H : Hp} {m k : Int} {cs : List Int} {R : Addr → Hp → Prop} {E : XK} (hc : H c = some (.lst (cs.map V.int))) (kk : ∀ x dx H2, Ex H H2 → H x = none → H2 x = some (.ins C dx [("mean", .int m), ("counts", .ref c), ("number", .int k)]) → H2 c = some (.lst (cs.map V.int)) → R x H2) :
    ∀ x dx, H x = none → H dx = none → dx ≠ x → sp_Block_init C [.ref x, .int m, .ref c, .int k] (upd (upd H dx (.own x)) x (.ins C dx [])) (fun v H2 => v = .non ∧ R x H2) E := by
  intro x dx nx ndx _
  have exB : Ex H (upd (upd H dx (.own x)) x (.ins C dx [])) := fun c o z => by
    rw [upd_ne (ne_of_none z nx), upd_ne (ne_of_none z ndx)]
    exact z
  refine ⟨x, dx, c, m, k, rfl, upd_same, fun H3 k3 h3 => ⟨rfl, ?_⟩⟩
  have e3 : Ex H H3 := fun c o z => k3 c o (ne_of_none z nx) (exB c o z)
  exact kk x dx H3 e3 nx h3 (e3 _ _ hc)
def sp_Block_paired (C : Addr) : Sp := fun vs H Q _ => ∃ (a : Addr) (b : Bk), vs = [.ref a] ∧ BlkO C H a b ∧ b.2.1.length ≤ 1000 ∧
  ∀ x dx c H2, Ex H H2 → H c = none → H2 x = some (.ins C dx [("mean", .int (pairB b).1), ("counts", .ref c), ("number", .int (pairB b).2.2)]) → H2 c = some (.lst ((pairB b).2.1.map V.int)) → Q (.ref x) H2
theorem ok_Block_paired (T : TX K mg) : FnOk P w K mg base CX0 3 T.f_Block_paired T.fd_Block_paired ["self"] (sp_Block_paired T.C_Block) := by
  refine T.F_Block_paired.ok sc_Block_paired (fun vs H Q E h => ?_) (fun cdv A outer s H vs Q E hr h => ?_)
  · obtain ⟨a, b, rfl, _⟩ := h
    rfl
  · obtain ⟨a, ⟨m, cs, k⟩, rfl, hb, l, kk⟩ := h
    refine ⟨_, (pss_one (ps_ret (pe_make T.M_Block (ok_Block_init T) hr rfl T.m_Block T.b_Block_init .nil pass0 (pa_cons (pe_fld (pv 0) rfl) (pa_cons (pe_lc (own := [("count", 1)]) (g := (gName 1)) rfl sc_Block_paired.nd (pi_list (pe_fld (pv 0) rfl)) (blkOk_by (N := N_Block_paired) (sc := defScope s_Block_paired) (by decide +kernel)) (fun _ _ _ _ _ => (pg_name (i := 1) sc_Block_paired.nd rfl (Or.inl rfl))) (fun _ _ _ _ _ => pts_nil) (fun _ _ _ _ _ => (pe_op op_mulI pe_int (pv 1)))) (pa_cons (pe_op op_fdivW (pe_fld (pv 0) rfl) pe_int) pa_nil)))))), ?_⟩
    obtain ⟨dx, c, h1, h2⟩ := id hb
    have h1 : H a = some (.ins T.C_Block dx [("mean", .int m), ("counts", .ref c), ("number", .int k)]) := h1
    have h2 : H c = some (.lst (cs.map V.int)) := h2
    refine ⟨_, rfl, a, T.C_Block, dx, _, _, rfl, h1, T.cl_Block, T.n_Block_mean, rfl, ?_⟩
    refine ⟨_, rfl, a, T.C_Block, dx, _, _, rfl, h1, T.cl_Block, T.n_Block_counts, rfl, c, rfl, ⟨_, SqL.of h2⟩, fun D hD => ?_⟩
    have l : cs.length ≤ 1000 := l
    refine lc_vals (walk_list (xs := cs.map V.int)) ((cs.map fun x => 2 * x).map V.int) (by simp) (by rw [List.length_map]; omega) hD (fun H2 e => SqL.of (e _ _ h2)) ?_ gmono_name ?_
    · rintro j y H6 H7 R hj e ⟨rfl, hy⟩ kk2
      obtain ⟨x, hx, rfl⟩ := map_get hy
      exact ⟨rfl, _, rfl, _, _, rfl, rfl, mul_ok (.inl (by decide)), kk2 _ _ exr (by rw [List.getElem?_map, List.getElem?_map, hx]; rfl)⟩
    intro H1 e1 hD1
    refine ⟨_, rfl, a, T.C_Block, dx, _, _, rfl, e1 _ _ h1, T.cl_Block, T.n_Block_number, rfl, _, _, rfl, rfl, wide_div (b := 8) (by decide) (by decide) (by decide) (by decide), ?_⟩
    refine mk_blk hD1 fun x dx2 H2 e2 nx hx hc2 => kk x dx2 D H2 (ext e1 e2) hD hx hc2
def sp_Block_joined (C : Addr) : Sp := fun vs H Q _ => ∃ (a o : Addr) (b d : Bk), vs = [.ref a, .ref o] ∧ BlkO C H a b ∧ BlkO C H o d ∧ b.2.1.length ≤ 1000 ∧ d.2.1.length = b.2.1.length ∧
  ∀ x dx c H2, Ex H H2 → H c = none → H2 x = some (.ins C dx [("mean", .int (joinB b d).1), ("counts", .ref c), ("number", .int (joinB b d).2.2)]) → H2 c = some (.lst ((joinB b d).2.1.map V.int)) → Q (.ref x) H2
theorem ok_Block_joined (T : TX K mg) : FnOk P w K mg base CX0 3 T.f_Block_joined T.fd_Block_joined ["self", "other"] (sp_Block_joined T.C_Block) := by
  refine T.F_Block_joined.ok sc_Block_joined (fun vs H Q E h => ?_) (fun cdv A outer s H vs Q E hr h => ?_)
  · obtain ⟨a, o, b, d, rfl, _⟩ := h
    rfl
  · obtain ⟨a, o, ⟨m, cs, k⟩, ⟨n, ds, l⟩, rfl, hb, hd, l1, l2, kk⟩ := h
    refine ⟨_, (pss_cons (ps_setLc (own := [("count", 3), ("more", 4)]) (g := (gTup K 2 (gCons (gName 3) (gCons (gName 4) gNil)))) (i := 2) rfl sc_Block_joined.nd rfl rfl (sw_true rfl rfl rfl (by decide +kernel)) (CZ.pi_z2s (fl := [false, false]) rfl (by rfl) T.z_zip (pa_cons (pe_fld (pv 0) rfl) (pa_cons (pe_fld (pv 1) rfl) pa_nil))) (blkOk_by (N := N_Block_joined) (sc := defScope s_Block_joined) (by decide +kernel)) (fun _ _ _ _ _ => (pg_tup rfl (pgs_cons (pg_name (i := 3) sc_Block_joined.nd rfl (Or.inl rfl)) (pgs_cons (pg_name (i := 4) sc_Block_joined.nd rfl (Or.inl rfl)) pgs_nil)))) (fun _ _ _ _ _ => pts_nil) (fun _ _ _ _ _ => (pe_op op_add (pv 3) (pv 4)))) (pss_one (ps_ret (pe_make T.M_Block (ok_Block_init T) hr rfl T.m_Block T.b_Block_init .nil pass0 (pa_cons (pe_op op_fdivW (pe_op op_add (pe_fld (pv 0) rfl) (pe_fld (pv 1) rfl)) pe_int) (pa_cons (pv 2) (pa_cons pe_int pa_nil))))))), ?_⟩
    obtain ⟨dx, c, h1, h2⟩ := id hb
    obtain ⟨dy, e, h3, h4⟩ := id hd
    have h1 : H a = some (.ins T.C_Block dx [("mean", .int m), ("counts", .ref c), ("number", .int k)]) := h1
    have h2 : H c = some (.lst (cs.map V.int)) := h2
    have h3 : H o = some (.ins T.C_Block dy [("mean", .int n), ("counts", .ref e), ("number", .int l)]) := h3
    have h4 : H e = some (.lst (ds.map V.int)) := h4
    refine ⟨_, rfl, a, T.C_Block, dx, _, _, rfl, h1, T.cl_Block, T.n_Block_counts, rfl, ?_⟩
    refine ⟨_, rfl, o, T.C_Block, dy, _, _, rfl, h3, T.cl_Block, T.n_Block_counts, rfl, ?_⟩
    have l1 : cs.length ≤ 1000 := l1
    have l2 : ds.length = cs.length := l2
    refine ⟨[c, e], rfl, rfl, all2 (sqL h2) (sqL h4), fun D hD => ?_⟩
    refine lc_vals (CZ.walk_rows (xss := [cs.map V.int, ds.map V.int]) (n := cs.length) (lens2 (by rw [List.length_map]) (by rw [List.length_map, l2]))) ((List.zipWith (fun x y => x + y) cs ds).map V.int) (by rw [List.length_map, List.length_zipWith, l2, Nat.min_self]) (by omega) hD (fun H3 x => .cons (sqL (x _ _ h2)) (.cons (sqL (x _ _ h4)) .nil)) ?_ (gmono_tup (gmono_cons gmono_name (gmono_cons gmono_name gmono_nil))) ?_
    · intro j y H6 H7 R hj e yy kk2
      obtain ⟨Tb, p, d, rfl, hTb, rfl, hp, hdd⟩ := yints2 yy
      refine ⟨Tb, _, rfl, SqT.of upd_same, rfl, _, _, rfl, _, _, rfl, rfl, ?_⟩
      refine ⟨rfl, _, rfl, _, rfl, _, _, rfl, rfl, ?_⟩
      refine kk2 _ _ (exn hTb) ?_
      rw [List.getElem?_map, List.getElem?_zipWith, hp, hdd]
      rfl
    intro H1 e1 hD1
    dsimp only [gName]
    refine ⟨_, rfl, a, T.C_Block, dx, _, _, rfl, e1 _ _ h1, T.cl_Block, T.n_Block_mean, rfl, ?_⟩
    refine ⟨_, rfl, o, T.C_Block, dy, _, _, rfl, e1 _ _ h3, T.cl_Block, T.n_Block_mean, rfl, _, _, rfl, rfl, _, _, rfl, rfl, wide_div (b := 8) (by decide) (by decide) (by decide) (by decide), ?_⟩
    refine ⟨_, rfl, ?_⟩
    refine mk_blk hD1 fun x dx2 H2 e2 nx hx hc2 => kk x dx2 D H2 (ext e1 e2) hD hx hc2
end

theorem paired_app {α : Type} {P : V → α → Prop} : ∀ {xs ys : List V} {as bs : List α}, Paired P xs as → Paired P ys bs → Paired P (xs ++ ys) (as ++ bs)
  | _, _, _, _, .nil, h => h
  | _, _, _, _, .cons q t, h => .cons q (paired_app t h)
theorem paired_map {α β : Type} {g : α → β} {P : V → β → Prop} : ∀ {xs : List V} {as : List α}, Paired (fun v a => P v (g a)) xs as → Paired P xs (as.map g)
  | _, _, .nil => .nil
  | _, _, .cons q t => .cons q (paired_map t)
theorem evs_zip {R : V → Bk → Prop} {xs : List V} {bs : List Bk} {i : Nat} {x y : V} {b : Bk} (h : Paired R xs bs) (hb : (joinL bs)[i]? = some b) (hx : (CZ.evs xs)[i]? = some x) (hy : (CZ.ods xs)[i]? = some y) : ∃ b1 b2, R x b1 ∧ R y b2 ∧ b1 ∈ bs ∧ b2 ∈ bs ∧ b = joinB b1 b2 := by
  rw [CZ.evs_at] at hx
  rw [CZ.ods_at] at hy
  obtain ⟨b1, h1, r1⟩ := paired_get h hx
  obtain ⟨b2, h2, r2⟩ := paired_get h hy
  unfold joinL at hb
  rw [List.getElem?_zipWith, CZ.evs_at, CZ.ods_at, h1, h2] at hb
  exact ⟨b1, b2, r1, r2, List.mem_of_getElem? h1, List.mem_of_getElem? h2, (Option.some.inj hb).symm⟩
section
variable {P : Program} {w : World} {K : PySem.W.Frag} {mg : Str → Option Value} {base : Heap}
def sp_next_blocks (C : Addr) : Sp := fun vs H Q _ => ∃ (l : Addr) (xs : List V) (bs : List Bk) (n : Nat), vs = [.ref l] ∧ H l = some (.lst xs) ∧ BlksR C H xs bs ∧ (∀ b ∈ bs, b.2.1.length = n) ∧ n ≤ 1000 ∧ bs.length ≤ 2000 ∧
  ∀ f H2 ys, Ex H H2 → H2 f = some (.lst ys) → BlksR C H2 ys (nextB bs) → Q (.ref f) H2
theorem ok_next_blocks (T : TX K mg) : FnOk P w K mg base CX0 4 T.f_next_blocks T.fd_next_blocks ["blocks"] (sp_next_blocks T.C_Block) := by
  refine T.F_next_blocks.ok sc_next_blocks (fun vs H Q E h => ?_) (fun cdv A outer s H vs Q E hr h => ?_)
  · obtain ⟨l, xs, bs, n, rfl, _⟩ := h
    rfl
  · obtain ⟨l, xs, bs, n, rfl, hl, hb, hn, n1, l2, kk⟩ := h
    refine ⟨_, (pss_cons (ps_setLc (own := [("block", 4)]) (g := (gName 4)) (i := 1) rfl sc_next_blocks.nd rfl rfl (sw_true rfl rfl rfl (by decide +kernel)) (pi_list (pv 0)) (blkOk_by (N := N_next_blocks) (sc := defScope s_next_blocks) (by decide +kernel)) (fun _ _ _ _ _ => (pg_name (i := 4) sc_next_blocks.nd rfl (Or.inl rfl))) (fun _ _ _ _ _ => (pts_one (pt_cmpR op_gt (pe_fldK K rfl (pv 4) rfl) pe_int (nomark _)))) (fun _ _ _ _ _ => (pe_meth0 (pv 4) T.cl_Block T.me_Block_paired (ok_Block_paired T) hr T.b_Block_paired .nil pass0))) (pss_cons (ps_for PassesOwn.never rfl (pi_tup (pe_tup (pa_cons pe_int (pa_cons pe_int pa_nil)))) (pg_name (i := 2) sc_next_blocks.nd rfl (Or.inr rfl)) (pss_cons (ps_setLc (own := [("block", 4)]) (g := (gName 4)) (i := 3) rfl sc_next_blocks.nd rfl rfl (sw_true rfl rfl rfl (by decide +kernel)) (pi_list (pv 0)) (blkOk_by (N := N_next_blocks) (sc := defScope s_next_blocks) (by decide +kernel)) (fun _ _ _ _ _ => (pg_name (i := 4) sc_next_blocks.nd rfl (Or.inl rfl))) (fun _ _ _ _ _ => (pts_one (PW.pt (pw_and (pt_cmpR op_eq (pe_op op_mod (pe_fldK K rfl (pv 4) rfl) pe_int) pe_int (nomark _)) (pw_and1 (pt_cmpR op_eq (pe_op op_mod (pe_fldK K rfl (pv 4) rfl) pe_int) (pv 2) (nomark _))))))) (fun _ _ _ _ _ => (pv 4))) (pss_one (ps_expr (pe_bm PySem.F.plainAttrs_list PySem.F.slot_list_extend PySem.F.type_list_extend mt_extend (pv 1) (pa_cons (pe_lc (own := [("one", 5), ("other", 6)]) (g := (gTup K 2 (gCons (gName 5) (gCons (gName 6) gNil)))) rfl sc_next_blocks.nd (CZ.pi_z2m (b1 := false) (b2 := false) (by rfl) T.z_zip (pa_cons (CZ.pe_evs (pv 3)) (pa_cons (CZ.pe_ods (pv 3)) pa_nil))) (blkOk_by (N := N_next_blocks) (sc := defScope s_next_blocks) (by decide +kernel)) (fun _ _ _ _ _ => (pg_tup rfl (pgs_cons (pg_name (i := 5) sc_next_blocks.nd rfl (Or.inl rfl)) (pgs_cons (pg_name (i := 6) sc_next_blocks.nd rfl (Or.inl rfl)) pgs_nil)))) (fun _ _ _ _ _ => pts_nil) (fun _ _ _ _ _ => (pe_meth (pv 5) T.cl_Block T.me_Block_joined (ok_Block_joined T) hr T.b_Block_joined .nil pass0 (pa_cons (pv 6) pa_nil)))) pa_nil)))))) (pss_one (ps_ret (pv 1))))), ?_⟩
    have lx : xs.length = bs.length := Paired.length hb
    refine ⟨_, rfl, l, rfl, ⟨_, SqL.of hl⟩, fun f hf => ?_⟩
    refine lc_newG (fun H v b => PdBk T.C_Block [f] H v (pairB b)) (fun Ha Hb v b ys hD e q => pdbk_mono (D := f) (by simp) Ha Hb v (pairB b) ys hD e q) (walk_list (xs := xs)) bs bigB lx.symm (by omega) hf (fun Hx ex => SqL.of (ex _ _ hl)) ?_ ?_
    · rintro i x b Hx _ R S hbi ex ⟨zs, hfx⟩ ⟨rfl, hx⟩ kY kN
      obtain ⟨b', hb', a, rfl, ho⟩ := paired_get hb hx
      obtain rfl : b' = b := Option.some.inj (hb'.symm.trans hbi)
      have hox := ho.mono ex
      obtain ⟨dx, c, h1, h2⟩ := id hox
      refine ⟨rfl, ?_⟩
      refine ⟨_, rfl, a, T.C_Block, dx, _, _, rfl, h1, T.cl_Block, T.n_Block_number, rfl, _, _, rfl, rfl, _, rfl, ?_⟩
      refine ite2 (fun h => ?_) (fun h => ?_)
      · have hB : bigB b' = true := by simpa [bigB] using h
        refine ⟨_, rfl, a, dx, _, rfl, h1, rfl, a, b', rfl, hox, by rw [hn b' (List.mem_of_getElem? hb')]; omega, fun y dy cc H2 e2 ncc hy hcc => ?_⟩
        exact kY _ _ e2 hB ⟨y, dy, cc, rfl, hy, fun z hz => by rw [List.mem_singleton.mp hz]; exact (ne_of_none hfx ncc).symm, hcc⟩
      · exact kN _ exr (by simpa [bigB] using h)
    intro H1 ys e1 hf1 pr
    have pr : Paired (PdBk T.C_Block [f] H1) ys ((bs.filter bigB).map pairB) := paired_map pr
    dsimp only [gName]
    refine ⟨slen rfl, ?_⟩
    (intro tp ntp; generalize hGtp : upd _ tp _ = H2; have eH2 := exG hGtp ntp; have htp := atG hGtp; clear hGtp)
    refine ⟨tp, rfl, ⟨_, SqT.of htp⟩, ?_⟩
    let part : Nat → List Bk := fun i => (bs.filter bigB).map pairB ++ (if 1 ≤ i then joinL (bs.filter (sgB 0)) else []) ++ (if 2 ≤ i then joinL (bs.filter (sgB 1)) else [])
    have lb0 : ∀ q : Bk → Bool, (bs.filter q).length ≤ bs.length := fun q => List.length_filter_le _ _
    have lpart : ∀ i, (part i).length ≤ 6000 := fun i => by
      have q1 := lb0 bigB
      have q2 := joinL_len (bs.filter (sgB 0))
      have q3 := joinL_len (bs.filter (sgB 1))
      have q4 := lb0 (sgB 0)
      have q5 := lb0 (sgB 1)
      show (_ ++ _ ++ _ : List Bk).length ≤ _
      rw [List.length_append, List.length_append, List.length_map]
      have s1 : (if 1 ≤ i then joinL (bs.filter (sgB 0)) else []).length ≤ 2000 := by
        split
        · omega
        · simp
      have s2 : (if 2 ≤ i then joinL (bs.filter (sgB 1)) else []).length ≤ 2000 := by
        split
        · omega
        · simp
      omega
    refine for_it (walk_tup (xs := [V.int 0, V.int 1])) (fun i σ Hx => (∃ y2 y3 y4 y5 y6, σ = [some (.ref l), some (.ref f), y2, y3, y4, y5, y6]) ∧ Ex H Hx ∧ Hx tp = some (.tup [V.int 0, V.int 1]) ∧ ∃ ys, Hx f = some (.lst ys) ∧ Paired (PdBk T.C_Block [f] Hx) ys (part i)) ⟨⟨_, _, _, _, _, rfl⟩, ext e1 eH2, htp, ys, eH2 _ _ hf1, ?_⟩ (fun i σ Hx _ ⟨_, _, q, _⟩ => SqT.of q) ?_ ?_
    · show Paired _ ys (_ ++ [] ++ [])
      rw [List.append_nil, List.append_nil]
      exact paired_mono (fun v b q => q.ex eH2) pr
    · rintro i x σ _ Hx hi ⟨⟨y2, y3, y4, y5, y6, rfl⟩, ex, htx, ys, hfx, px⟩ ⟨rfl, hx⟩
      obtain ⟨par, rfl, hpar⟩ : ∃ par : Int, x = .int par ∧ part (i + 1) = part i ++ joinL (bs.filter (sgB par)) := by
        have hi2 : i < 2 := hi
        have hi3 : i = 0 ∨ i = 1 := by omega
        rcases hi3 with rfl | rfl
        · refine ⟨0, (Option.some.inj hx).symm, ?_⟩
          simp [part]
        · refine ⟨1, (Option.some.inj hx).symm, ?_⟩
          simp [part]
      dsimp only [gName]
      have hlx := ex _ _ hl
      have hbx := hb.mono ex
      refine ⟨_, rfl, l, rfl, ⟨_, SqL.of hlx⟩, fun D hD => ?_⟩
      refine lc_newG (PdBk T.C_Block [D]) (fun Ha Hb v b ys hD e q => pdbk_mono (D := D) (by simp) Ha Hb v b ys hD e q) (walk_list (xs := xs)) bs (sgB par) lx.symm (by omega) hD (fun Hy ey => SqL.of (ey _ _ hlx)) ?_ ?_
      · rintro i x b _ Hy R S hbi ey _ ⟨rfl, hx⟩ kY kN
        obtain ⟨b', hb', a, rfl, ho⟩ := paired_get hbx hx
        obtain rfl : b' = b := Option.some.inj (hb'.symm.trans hbi)
        obtain ⟨dx, c, h1, h2⟩ := ho
        have hox : PdBk T.C_Block [D] Hy (.ref a) b' := ⟨a, dx, c, rfl, ey _ _ h1, fun z hz => by rw [List.mem_singleton.mp hz]; exact ne_of_none h2 hD, ey _ _ h2⟩
        refine ⟨rfl, ?_⟩
        refine ⟨_, rfl, a, T.C_Block, dx, _, _, rfl, ey _ _ h1, T.cl_Block, T.n_Block_number, rfl, _, _, rfl, rfl, (by show (0 : Int) < 2; decide), rfl, _, rfl, ?_⟩
        refine ite2 (fun h => ?_) (fun h => ?_)
        · refine ⟨_, rfl, a, T.C_Block, dx, _, _, rfl, ey _ _ h1, T.cl_Block, T.n_Block_mean, rfl, _, _, rfl, rfl, (by show (0 : Int) < 2; decide), _, rfl, rfl, _, rfl, ?_⟩
          refine ite2 (fun h2 => ?_) (fun h2 => ?_)
          · exact ⟨_, rfl, kY _ _ exr (by simp [sgB] at h h2 ⊢; exact ⟨h, h2⟩) hox⟩
          · exact kN _ exr (by simp [sgB] at h h2 ⊢; exact fun _ => h2)
        · exact kN _ exr (by simp [sgB] at h ⊢; exact fun z => absurd z h)
      intro H3 ss e3 hD3 ps
      dsimp only [gName]
      have E3 := ext ex e3
      have hf3 := e3 _ _ hfx
      have ls : ss.length = (bs.filter (sgB par)).length := Paired.length ps
      refine ⟨_, rfl, .inl ⟨rfl, _, SqL.of hf3⟩, ?_⟩
      refine ⟨_, rfl, D, ss, rfl, SqL.of hD3, fun p1 hp1 => ?_⟩
      have x1 := exn (o := .lst (CZ.evs ss)) hp1
      refine ⟨_, rfl, D, ss, rfl, SqL.of (x1 _ _ hD3), fun p2 hp2 => ?_⟩
      have x2 := exn (o := .lst (CZ.ods ss)) hp2
      have hq1 := x2 _ _ (upd_same (H := H3) (a := p1) (o := .lst (CZ.evs ss)))
      generalize hG : upd (upd H3 p1 _) p2 _ = H4 at x2 hq1
      have hq2 : H4 p2 = some (.lst (CZ.ods ss)) := by rw [← hG]; exact upd_same
      have E34 : Ex H3 H4 := ext x1 x2
      clear hG
      have hf4 := E34 _ _ hf3
      have lb := lb0 (sgB par)
      have lj := joinL_len (bs.filter (sgB par))
      refine ⟨p1, p2, rfl, ⟨_, sqL hq1⟩, ⟨_, sqL hq2⟩, fun D2 hD2 => ?_⟩
      refine lc_newG (PdBk T.C_Block [D2, f]) (fun Ha Hb v b ys hD e q => pdbk_mono (D := D2) (by simp) Ha Hb v b ys hD e q) (CZ.walk_m (xs := CZ.evs ss) (ys := CZ.ods ss) (n := (joinL (bs.filter (sgB par))).length) (by rw [CZ.evs_len, CZ.ods_len, lj, ls]; omega)) (joinL (bs.filter (sgB par))) (fun _ => true) rfl (by omega) hD2 (fun Hy ey => .cons (sqL (ey _ _ hq1)) (.cons (sqL (ey _ _ hq2)) .nil)) ?_ ?_
      · rintro j y b Hy _ R S hbj ey ⟨zs, hDz⟩ yy kY kN
        obtain ⟨Tb, vs, rfl, hTb, rfl, hv⟩ := yy
        cases hv with
        | cons r1 t =>
          cases t with
          | cons r2 t2 =>
            cases t2
            obtain ⟨b1, b2, ⟨a1, dx1, c1, rfl, g1, _, k1⟩, ⟨a2, dx2, c2, rfl, g2, _, k2⟩, m1, m2, rfl⟩ := evs_zip ps hbj r1 r2
            have eT := ext E34 (ext ey (exn (o := .tup [V.ref a1, V.ref a2]) hTb))
            have n1' := hn b1 (List.mem_filter.mp m1).1
            have n2' := hn b2 (List.mem_filter.mp m2).1
            refine ⟨Tb, _, rfl, SqT.of upd_same, rfl, _, _, rfl, _, _, rfl, rfl, ?_⟩
            refine ⟨rfl, ?_⟩
            refine ⟨_, rfl, a1, dx1, _, rfl, eT _ _ g1, rfl, _, rfl, a1, a2, b1, b2, rfl, ⟨dx1, c1, eT _ _ g1, eT _ _ k1⟩, ⟨dx2, c2, eT _ _ g2, eT _ _ k2⟩, by omega, by rw [n1', n2'], fun y dy cc H6 e6 ncc hy hcc => ?_⟩
            refine kY _ _ (ext (exn hTb) e6) rfl ⟨y, dy, cc, rfl, hy, fun z hz => ?_, hcc⟩
            simp only [List.mem_cons, List.not_mem_nil, or_false] at hz
            rcases hz with rfl | rfl
            · exact (ne_of_none (exn hTb _ _ hDz) ncc).symm
            · exact (ne_of_none (exn hTb _ _ (ey _ _ hf4)) ncc).symm
      intro H5 ns e5 hD5 pn
      have pn : Paired (PdBk T.C_Block [D2, f] H5) ns (joinL (bs.filter (sgB par))) := by
        rw [List.filter_eq_self.mpr (fun _ _ => rfl)] at pn
        exact pn
      have E35 : Ex Hx H5 := ext e3 (ext E34 e5)
      have hf5 := E35 _ _ hfx
      refine ⟨f, D2, ys, ns, rfl, rfl, hf5, hD5, ?_, ?_⟩
      · have := lpart i
        rw [Paired.length px, Paired.length pn]
        exact Nat.le_trans (show _ ≤ 12000 by omega) (by decide)
      · refine ⟨⟨_, _, _, _, _, rfl⟩, ex_upd (ext ex E35) hf, by rw [upd_ne (ne_of (E35 _ _ htx) hf5 (by intro z; cases z))]; exact E35 _ _ htx, ys ++ ns, upd_same, ?_⟩
        rw [hpar]
        exact paired_app (paired_mono (fun v b q => pdbk_mono (D := f) (by simp) _ _ v b _ hf5 (fun c o n z => by rw [upd_ne n]; exact z) (q.ex E35)) px) (paired_mono (fun v b q => pdbk_mono (D := f) (by simp) _ _ v b _ hf5 (fun c o n z => by rw [upd_ne n]; exact z) (q.less (by simp))) pn)
    · rintro σ Hx ⟨⟨y2, y3, y4, y5, y6, rfl⟩, ex, htx, ys, hfx, px⟩
      refine ⟨_, rfl, kk f Hx ys ex hfx ?_⟩
      have e : part 2 = nextB bs := by simp [part, nextB]
      have px : Paired (PdBk T.C_Block [f] Hx) ys (part 2) := px
      rw [e] at px
      exact pdbk_all px
end

theorem low_bits (d : Nat) : Builtin.bitAnd ((2 : Int) ^ d) ((2 : Int) ^ d - 1) = 0 := by
  have h : (2 : Int) ^ d = ((2 ^ d : Nat) : Int) := by simp
  have h1 : (2 : Int) ^ d - 1 = ((2 ^ d - 1 : Nat) : Int) := by
    have : 1 ≤ 2 ^ d := Nat.one_le_two_pow
    rw [h]
    omega
  rw [h1, h, and_cast, Nat.and_two_pow_sub_one_eq_mod, Nat.mod_self]
  rfl
/-- a sum of targets: 2^d of them, for the place p -/
structure SumAt (n : Int) (ts : List Int) (p : Int) (d : Nat) (cs : List Int) : Prop where
  len : cs.length = ts.length
  pos : ∀ x ∈ cs, 0 ≤ x
  sum : cs.sum = 2 ^ d
  dvd : n ∣ wsum cs ts - 2 ^ d * p
theorem le_sum : ∀ {cs : List Int}, (∀ x ∈ cs, 0 ≤ x) → ∀ x ∈ cs, x ≤ cs.sum
  | [], _, x, h => nomatch h
  | c :: cs, p, x, h => by
    have nn : ∀ l : List Int, (∀ x ∈ l, 0 ≤ x) → 0 ≤ l.sum := fun l => by
      induction l with
      | nil => exact fun _ => Int.le_refl _
      | cons a l ih =>
        intro q
        have := ih fun x hx => q x (List.mem_cons_of_mem _ hx)
        have := q a List.mem_cons_self
        rw [List.sum_cons]
        omega
    rw [List.sum_cons]
    rcases List.mem_cons.mp h with rfl | h
    · have := nn cs fun y hy => p y (List.mem_cons_of_mem _ hy)
      omega
    · have := le_sum (fun y hy => p y (List.mem_cons_of_mem _ hy)) x h
      have := p c List.mem_cons_self
      omega
theorem SumAt.fwd {n p : Int} {ts cs : List Int} {d : Nat} {b : Bk} (g : GoodB ts d b) : SumAt n ts ((p + (b.1 - p) % n) % n) d b.2.1 where
  len := g.len
  pos := g.pos
  sum := g.sum
  dvd := by
    rw [g.mean, ← Int.mul_sub]
    refine Int.dvd_mul_of_dvd_right ?_
    have q1 : n ∣ (b.1 - p) % n - (b.1 - p) := emod_dvd _ _
    have q2 : n ∣ (p + (b.1 - p) % n) % n - (p + (b.1 - p) % n) := emod_dvd _ _
    have := Int.dvd_neg.mpr (Int.dvd_add q1 q2)
    exact (congrArg (n ∣ ·) (by omega)).mp this
theorem SumAt.bwd {n p : Int} {ts cs : List Int} {d : Nat} {b : Bk} (s : SumAt n ts p (d + 1) cs) (g : GoodB ts d b) (h : ∀ i, i < ts.length → b.2.1.getD i 0 ≤ cs.getD i 0) : SumAt n ts ((p - (b.1 - p) % n) % n) d (List.zipWith (fun x y => x - y) cs b.2.1) where
  len := by rw [List.length_zipWith, s.len, g.len, Nat.min_self]
  pos := sub_pos (s.len.trans g.len.symm) fun i hi => h i (by rw [← g.len]; exact hi)
  sum := by
    rw [sum_zsub (s.len.trans g.len.symm), s.sum, g.sum, Int.pow_succ]
    omega
  dvd := by
    rw [wsum_zsub (s.len.trans g.len.symm), g.mean]
    have q0 := s.dvd
    rw [Int.pow_succ] at q0
    have q1 : n ∣ (b.1 - p) % n - (b.1 - p) := emod_dvd _ _
    have q2 : n ∣ (p - (b.1 - p) % n) % n - (p - (b.1 - p) % n) := emod_dvd _ _
    have q3 : n ∣ 2 ^ d * ((b.1 - p) % n - (b.1 - p) - ((p - (b.1 - p) % n) % n - (p - (b.1 - p) % n))) := Int.dvd_mul_of_dvd_right (Int.dvd_sub q1 q2)
    have := Int.dvd_add q0 q3
    exact (congrArg (n ∣ ·) (by grind)).mp this
/-- the block at the end -/
def blkE (ts cs : List Int) (d : Nat) : Bk := (nextN d (initB ts cs ts.length)).headD (0, [], 0)
def bwdL (ts cs : List Int) (d : Nat) : List Int := List.zipWith (fun x y => x - y) cs (blkE ts cs d).2.1
def callV (n p : Int) (ts cs : List Int) (d : Nat) : Int := ((blkE ts cs d).1 - p) % n
theorem SumAt.blk {n p : Int} {ts cs : List Int} {d : Nat} (s : SumAt n ts p (d + 1) cs) : ∀ k, k ≤ d + 1 → BlkAt ts cs (d + 1) k (nextN k (initB ts cs ts.length))
  | 0, _ => blk_init s.len s.pos s.sum
  | k + 1, h => (s.blk k (by omega)).next (by omega)
theorem SumAt.ends {n p : Int} {ts cs : List Int} {d : Nat} (s : SumAt n ts p (d + 1) cs) : GoodB ts d (blkE ts cs d) ∧ ∀ i, i < ts.length → (blkE ts cs d).2.1.getD i 0 ≤ cs.getD i 0 := by
  obtain ⟨b, r, e, g, h⟩ := (s.blk d (by omega)).head
  have eb : blkE ts cs d = b := by
    unfold blkE
    rw [e]
    rfl
  rw [eb]
  exact ⟨g, h⟩
theorem SumAt.call {n p : Int} {ts cs : List Int} {d : Nat} (n0 : 0 < n) (s : SumAt n ts p (d + 1) cs) :
    0 ≤ callV n p ts cs d ∧ callV n p ts cs d < n ∧ SumAt n ts ((p + callV n p ts cs d) % n) d (blkE ts cs d).2.1 ∧ SumAt n ts ((p - callV n p ts cs d) % n) d (bwdL ts cs d) :=
  ⟨mod_lo n0, mod_hi n0, SumAt.fwd (cs := cs) s.ends.1, s.bwd s.ends.1 s.ends.2⟩
section
variable {P : Program} {w : World} {K : PySem.W.Frag} {mg : Str → Option Value} {base : Heap}
def sp_call_from_sum : Sp := fun vs H Q _ => ∃ (n p : Int) (d : Nat) (q : Bool × Addr) (c : Addr) (ts cs : List Int), vs = [.int n, .ref q.2, .int p, .ref c] ∧ 1 ≤ n ∧ 0 ≤ p ∧ p < n ∧ n.natAbs < 2 ^ 4000 ∧ d < 1000 ∧ SqH H q (ts.map V.int) ∧ H c = some (.lst (cs.map V.int)) ∧ ts ≠ [] ∧ ts.length ≤ 100 ∧ (∀ t ∈ ts, 0 ≤ t ∧ t < n) ∧ ts.Nodup ∧ SumAt n ts p (d + 1) cs ∧
  ∀ (r l1 l2 : Addr) H2, Ex H H2 → H2 r = some (.tup [.int (callV n p ts cs d), .ref l1, .ref l2]) → H2 l1 = some (.lst ((blkE ts cs d).2.1.map V.int)) → H2 l2 = some (.lst ((bwdL ts cs d).map V.int)) → H l1 = none → H l2 = none → H r = none → l1 ≠ l2 → Q (.ref r) H2
theorem ok_call_from_sum (T : TX K mg) : FnOk P w K mg base CX0 5 T.f_call_from_sum T.fd_call_from_sum ["size", "targets", "place", "counts"] sp_call_from_sum := by
  refine T.F_call_from_sum.ok sc_call_from_sum (fun vs H Q E h => ?_) (fun cdv A outer s H vs Q E hr h => ?_)
  · obtain ⟨n, p, d, q, c, ts, cs, rfl, _⟩ := h
    rfl
  · obtain ⟨n, p, d, ⟨b, a⟩, c, ts, cs, rfl, n1, p0, p1, nB, d1, ha, hc, ne, l100, inr, nod, sm, kk⟩ := h
    refine ⟨_, (pss_cons (ps_expr (pe_call (ok_require_places T) hr rfl T.m_require_places T.F_require_places.kp T.b_require_places .nil pass0 (pa_cons (pv 0) (pa_cons (pv 1) pa_nil)))) (pss_cons (ps_expr (pe_call (ok_require_place T) (hr.mono (by decide)) rfl T.m_require_place T.F_require_place.kp T.b_require_place .nil pass0 (pa_cons (pv 0) (pa_cons (pv 2) (pa_cons pe_str pa_nil))))) (pss_cons (ps_expr (pe_call (ok_require_counts T) (hr.mono (by decide)) rfl T.m_require_counts T.F_require_counts.kp T.b_require_counts .nil pass0 (pa_cons (pv 1) (pa_cons (pv 3) pa_nil)))) (pss_cons (ps_set (i := 4) sc_call_from_sum.nd rfl (Or.inl rfl) (pe_callB (cr_sum rfl) (by rfl) T.z_sum (by decide +kernel) (pa_cons (pv 3) pa_nil))) (pss_cons (ps_if (PW.pt (pw_or (pt_cmpR op_lt (pv 4) pe_int (nomark _)) (pw_or1 (pt_cmpR op_ne (pe_op op_and (pv 4) (pe_op op_sub (pv 4) pe_int)) pe_int (nomark _))))) pss_never pss_nil) (pss_cons (ps_expr (pe_call (ok_require_sum T) (hr.mono (by decide)) rfl T.m_require_sum T.F_require_sum.kp T.b_require_sum .nil pass0 (pa_cons (pv 0) (pa_cons (pv 1) (pa_cons (pv 2) (pa_cons (pv 3) (pa_cons (pv 4) pa_nil))))))) (pss_cons (ps_set (i := 5) sc_call_from_sum.nd rfl (Or.inl rfl) (pe_lst pa_nil)) (pss_cons (ps_for PassesOwn.never rfl (CZ.pi_ez (fl := [b, false]) rfl (by rfl) T.z_zip (by rfl) T.z_enumerate (pa_cons (pv 1) (pa_cons (pv 3) pa_nil))) (pg_tup rfl (pgs_cons (pg_name (i := 6) sc_call_from_sum.nd rfl (Or.inr rfl)) (pgs_cons (pg_tup rfl (pgs_cons (pg_name (i := 7) sc_call_from_sum.nd rfl (Or.inl rfl)) (pgs_cons (pg_name (i := 8) sc_call_from_sum.nd rfl (Or.inl rfl)) pgs_nil))) pgs_nil))) (pss_one (ps_if (pt_cmpR op_gt (pv 8) pe_int (nomark _)) (pss_one (ps_expr (pe_bm PySem.F.plainAttrs_list PySem.F.slot_list_append PySem.F.type_list_append mt_append (pv 5) (pa_cons (pe_make T.M_Block (ok_Block_init T) (hr.mono (by decide)) rfl T.m_Block T.b_Block_init .nil pass0 (pa_cons (pv 7) (pa_cons (pe_lc (own := [("other", 12)]) (g := (gName 12)) rfl sc_call_from_sum.nd (pi_range1 rfl T.z_range (pa_cons (pe_callB call_len_seq (by rfl) T.z_len (by decide +kernel) (pa_cons (pv 1) pa_nil)) pa_nil)) (blkOk_by (N := N_call_from_sum) (sc := defScope s_call_from_sum) (by decide +kernel)) (fun _ _ _ _ _ => (pg_name (i := 12) sc_call_from_sum.nd rfl (Or.inl rfl))) (fun _ _ _ _ _ => pts_nil) (fun _ _ _ _ _ => (pe_callTy call_int1 (by rfl) T.z_int (by decide +kernel) (pa_cons (pe_cmpR op_eq (pv 12) (pv 6) (nomark _)) pa_nil)))) (pa_cons (pv 8) pa_nil)))) pa_nil)))) pss_nil))) (pss_cons (ps_for PassesOwn.never rfl (pi_range1 rfl T.z_range (pa_cons (pe_op op_sub (pe_bits (pv 4)) pe_int) pa_nil)) (pg_name (i := 9) sc_call_from_sum.nd rfl (Or.inl rfl)) (pss_one (ps_set (i := 5) sc_call_from_sum.nd rfl (Or.inl rfl) (pe_call (ok_next_blocks T) hr rfl T.m_next_blocks T.F_next_blocks.kp T.b_next_blocks .nil pass0 (pa_cons (pv 5) pa_nil))))) (pss_cons (ps_set (i := 10) sc_call_from_sum.nd rfl (Or.inl rfl) (pe_callTy call_list_of (by rfl) T.z_list (by decide +kernel) (pa_cons (pe_fld (pe_ix ix_list (pv 5) pe_int (fun _ _ => rfl)) rfl) pa_nil))) (pss_cons (ps_setLc (own := [("count", 8), ("taken", 13)]) (g := (gTup K 2 (gCons (gName 8) (gCons (gName 13) gNil)))) (i := 11) rfl sc_call_from_sum.nd rfl rfl (sw_true rfl rfl rfl (by decide +kernel)) (CZ.pi_z2s (fl := [false, false]) rfl (by rfl) T.z_zip (pa_cons (pv 3) (pa_cons (pv 10) pa_nil))) (blkOk_by (N := N_call_from_sum) (sc := defScope s_call_from_sum) (by decide +kernel)) (fun _ _ _ _ _ => (pg_tup rfl (pgs_cons (pg_name (i := 8) sc_call_from_sum.nd rfl (Or.inl rfl)) (pgs_cons (pg_name (i := 13) sc_call_from_sum.nd rfl (Or.inl rfl)) pgs_nil)))) (fun _ _ _ _ _ => pts_nil) (fun _ _ _ _ _ => (pe_op op_sub (pv 8) (pv 13)))) (pss_one (ps_ret (pe_tup (pa_cons (pe_op op_mod (pe_op op_sub (pe_fld (pe_ix ix_list (pv 5) pe_int (fun _ _ => rfl)) rfl) (pv 2)) (pv 0)) (pa_cons (pv 10) (pa_cons (pv 11) pa_nil))))))))))))))))), ?_⟩
    have hl := sm.len
    have n0 : 0 < n := by omega
    refine ⟨_, rfl, _, rfl, n, (b, a), ts, rfl, n1, ha, ne, by omega, inr, nod, fun H1 e1 => ?_⟩
    refine ⟨_, rfl, _, rfl, n, p, _, rfl, p0, p1, ?_⟩
    refine ⟨_, rfl, _, rfl, (b, a), c, ts, cs, rfl, ha.mono e1, e1 _ _ hc, hl, sm.pos, fun H2 e2 => ?_⟩
    have E2 := ext e1 e2
    refine ⟨_, rfl, c, cs, rfl, SqL.of (E2 _ _ hc), ?_⟩
    dsimp only [gName]
    rw [sm.sum]
    have t2 : (2 : Int) ≤ 2 ^ (d + 1) := by
      have := Int.pow_pos (n := (2 : Int)) (m := d) (by decide)
      rw [Int.pow_succ]
      omega
    refine ⟨_, rfl, _, _, rfl, rfl, _, rfl, itf (decide_eq_false (by omega)) ?_⟩
    refine ⟨_, rfl, _, rfl, _, _, rfl, rfl, _, _, rfl, rfl, rfl, _, rfl, itf ?_ ?_⟩
    · show (!decide (V.int (Builtin.bitAnd (2 ^ (d + 1)) (2 ^ (d + 1) - 1)) = V.int 0)) = false
      rw [low_bits]
      rfl
    have b5 : ∀ x : Int, 0 ≤ x → x ≤ 2 ^ (d + 1) → x.natAbs < 2 ^ 5000 := fun x h0 h1 => by
      have h2 : x ≤ 2 ^ 1000 := Int.le_trans h1 (pow2_le (by omega))
      have h4 : x.natAbs ≤ 2 ^ 1000 := by
        have : ((2 ^ 1000 : Nat) : Int) = (2 : Int) ^ 1000 := by simp
        omega
      exact Nat.lt_of_le_of_lt h4 (Nat.pow_lt_pow_right (by decide) (by decide))
    have bn : ∀ x : Int, 0 ≤ x → x < n → x.natAbs < 2 ^ 5000 := fun x h0 h1 => Nat.lt_of_lt_of_le (show x.natAbs < 2 ^ 4000 by omega) (Nat.pow_le_pow_right (by decide) (by decide))
    refine ⟨_, rfl, _, rfl, _, rfl, _, rfl, _, rfl, n, p, 2 ^ (d + 1), (b, a), c, ts, cs, rfl, n1, ha.mono E2, E2 _ _ hc, hl, l100, fun x hx => b5 x (sm.pos x hx) (by rw [← sm.sum]; exact le_sum sm.pos x hx), fun x hx => bn x (inr x hx).1 (inr x hx).2, b5 _ (by omega) (Int.le_refl _), bn p p0 p1, sm.sum, sm.dvd, fun H3 e3 => ?_⟩
    have E3 := ext E2 e3
    refine ⟨slen rfl, ?_⟩
    (intro bl nbl; generalize hGbl : upd _ bl _ = H4; have eH4 := exG hGbl nbl; have hbl := atG hGbl; clear hGbl)
    have E4 := ext E3 eH4
    have nbl0 : H bl = none := by
      cases h : H bl with
      | none => rfl
      | some o => rw [E3 _ _ h] at nbl; cases nbl
    refine ⟨_, rfl, _, rfl, [a, c], rfl, rfl, all2 (ha.mono E4).sq (sqL (E4 _ _ hc)), ?_⟩
    refine for_it (CZ.walk_ez (xss := [ts.map V.int, cs.map V.int]) (n := ts.length) (lens2 (by rw [List.length_map]) (by rw [List.length_map, hl]))) (fun i σ Hx => (∃ y6 y7 y8 y9 y10 y11 y12 y13, σ = [some (.int n), some (.ref a), some (.int p), some (.ref c), some (.int (2 ^ (d + 1))), some (.ref bl), y6, y7, y8, y9, y10, y11, y12, y13]) ∧ Ex H Hx ∧ ∃ xs, Hx bl = some (.lst xs) ∧ Paired (PdBk T.C_Block [bl] Hx) xs (initB ts cs i)) ⟨⟨_, _, _, _, _, _, _, _, rfl⟩, E4, [], hbl, .nil⟩ (fun i σ Hx _ ⟨_, e, _⟩ => .cons (ha.mono e).sq (.cons (sqL (e _ _ hc)) .nil)) ?_ ?_
    · rintro i x σ Ha Hb hi ⟨⟨y6, y7, y8, y9, y10, y11, y12, y13, rfl⟩, ea, xs, hba, pr⟩ yy
      obtain ⟨T1, T2, vs, rfl, hT1, hT2, hne, rfl, hv⟩ := yy
      cases hv with
      | cons r1 hv =>
        cases hv with
        | cons r2 hv =>
          cases hv
          obtain ⟨t, ht, rfl⟩ := map_get r1
          obtain ⟨k, hk, rfl⟩ := map_get r2
          have eb1 := exn (o := .tup [V.int t, V.int k]) hT1
          have eb2 := exn (H := upd Ha T1 (.tup [V.int t, V.int k])) (o := .tup [.int (i : Nat), .ref T1]) (by rw [upd_ne hne]; exact hT2)
          have eb := ext eb1 eb2
          refine ⟨T2, _, rfl, SqT.of upd_same, rfl, _, _, rfl, _, _, rfl, T1, _, rfl, SqT.of (eb2 _ _ upd_same), rfl, _, _, rfl, _, _, rfl, rfl, rfl, ?_⟩
          generalize upd (upd Ha T1 (.tup [V.int t, V.int k])) T2 (.tup [.int (i : Nat), .ref T1]) = Hb at eb
          clear eb1 eb2
          dsimp only [gName]
          have Eb := ext ea eb
          have hbb := eb _ _ hba
          have hnext : initB ts cs (i + 1) = initB ts cs i ++ if 0 < k then [(t, unitL ts.length i, k)] else [] := by
            rw [init_snoc, List.getD_eq_getElem?_getD, List.getD_eq_getElem?_getD, ht, hk]
            rfl
          refine ⟨_, rfl, _, _, rfl, rfl, _, rfl, ?_⟩
          refine ite2 (fun h => ?_) (fun h => ?_)
          · have h : 0 < k := by simpa using h
            refine ⟨_, rfl, .inl ⟨rfl, _, SqL.of hbb⟩, ?_⟩
            refine ⟨_, rfl, ?_⟩
            refine ⟨_, rfl, a, _, rfl, sq_or (ha.mono Eb), _, rfl, by rw [List.length_map]; omega, by rw [List.length_map]; omega, fun D hD => ?_⟩
            refine lc_vals walk_range ((unitL ts.length i).map V.int) (by simp [unitL]) (by rw [List.length_map]; omega) hD (fun _ _ => True.intro) ?_ gmono_name ?_
            · rintro j y H6 H7 R hj e ⟨rfl, rfl⟩ kk2
              have hj2 : j < ts.length := by
                rw [List.length_map] at hj
                omega
              refine ⟨rfl, _, rfl, _, rfl, rfl, .inr ⟨_, rfl, kk2 _ _ exr ?_⟩⟩
              rw [List.getElem?_map]
              unfold unitL
              rw [List.getElem?_map, List.getElem?_range hj2]
              show some (V.int (if j = i then 1 else 0)) = some (V.int (if decide (V.int (0 + (j : Int)) = V.int (i : Int)) = true then 1 else 0))
              by_cases c : j = i
              · rw [if_pos c, if_pos (by rw [c]; simp)]
              · rw [if_neg c, if_neg (by simp; omega)]
            intro H6 e6 hD6
            refine ⟨_, rfl, ?_⟩
            refine mk_blk hD6 fun x dx H7 e7 nx hx hD7 => ?_
            have E7 := ext e6 e7
            have hb7 := E7 _ _ hbb
            have nDbl : D ≠ bl := (ne_of_none hbb hD).symm
            refine ⟨bl, _, _, rfl, rfl, hb7, ?_, ?_⟩
            · rw [Paired.length pr]
              have : (initB ts cs i).length ≤ i := by
                unfold initB
                rw [List.length_map]
                exact Nat.le_trans (List.length_filter_le _ _) (by rw [List.length_range]; exact Nat.le_refl _)
              have hi2 : i < ts.length := hi
              exact Nat.lt_of_le_of_lt (show _ ≤ 100 by omega) (by decide)
            refine ⟨⟨_, _, _, _, _, _, _, _, rfl⟩, ex_upd (ext Eb E7) nbl0, _, upd_same, ?_⟩
            rw [hnext, if_pos h]
            have up : ∀ v b, PdBk T.C_Block [bl] H7 v b → PdBk T.C_Block [bl] (upd H7 bl (.lst (xs ++ [V.ref x]))) v b := fun v b q => pdbk_mono (D := bl) (by simp) _ _ v b _ hb7 (fun c o n z => by rw [upd_ne n]; exact z) q
            exact paired_snoc (up _ _ ⟨x, dx, D, rfl, hx, fun z hz => by rw [List.mem_singleton.mp hz]; exact nDbl, hD7⟩) (paired_mono (fun v b q => up v b (q.ex (ext eb E7))) pr)
          · have h : ¬ 0 < k := by simpa using h
            refine ⟨⟨_, _, _, _, _, _, _, _, rfl⟩, Eb, xs, hbb, ?_⟩
            rw [hnext, if_neg h, List.append_nil]
            exact paired_mono (fun v b q => q.ex eb) pr
    · rintro σ Ha ⟨⟨y6, y7, y8, y9, y10, y11, y12, y13, rfl⟩, ea, xs, hba, pr⟩
      dsimp only [gName]
      have pr : Paired (PdBk T.C_Block [bl] Ha) xs (initB ts cs ts.length) := pr
      have ebits : Builtin.Int.intBits (2 ^ (d + 1)) = d + 2 := bits_pow (d + 1)
      refine ⟨_, rfl, _, rfl, _, _, rfl, rfl, _, rfl, ?_, ?_, ?_⟩
      · rw [ebits]; omega
      · rw [ebits]; omega
      rw [ebits, show (((d + 2 : Nat) : Int) - 2).toNat = d by omega]
      refine for_it walk_range (fun i σ Hx => (∃ b y6 y7 y8 y9 y10 y11 y12 y13, σ = [some (.int n), some (.ref a), some (.int p), some (.ref c), some (.int (2 ^ (d + 1))), some (.ref b), y6, y7, y8, y9, y10, y11, y12, y13] ∧ ∃ xs, Hx b = some (.lst xs) ∧ BlksR T.C_Block Hx xs (nextN i (initB ts cs ts.length))) ∧ Ex H Hx) ⟨⟨_, _, _, _, _, _, _, _, _, rfl, xs, hba, pdbk_all pr⟩, ea⟩ (fun _ _ _ _ _ => True.intro) ?_ ?_
      · rintro i x σ _ Hb hi ⟨⟨b, y6, y7, y8, y9, y10, y11, y12, y13, rfl, ys, hbb, pb⟩, eb⟩ ⟨rfl, rfl⟩
        dsimp only [gName]
        have hi2 : i < d := hi
        have bk := sm.blk i (by omega)
        have lb := bk.len
        refine ⟨_, rfl, b, ys, _, ts.length, rfl, hbb, pb, fun b hb => (bk.good b hb).len, by omega, by omega, fun f H5 zs e5 hf pz => ?_⟩
        exact ⟨⟨_, _, _, _, _, _, _, _, _, rfl, zs, hf, pz⟩, ext eb e5⟩
      · rintro σ Hb ⟨⟨b, y6, y7, y8, y9, y10, y11, y12, y13, rfl, ys, hbb, pb⟩, eb⟩
        dsimp only [gName]
        obtain ⟨b0, rr, ee, gb, le⟩ := (sm.blk d (by omega)).head
        have eb0 : blkE ts cs d = b0 := by
          unfold blkE
          rw [ee]
          rfl
        rw [ee] at pb
        obtain ⟨x0, ys', rfl, ⟨a0, rfl, dx, c0, h0, hc0⟩⟩ : ∃ x0 ys', ys = x0 :: ys' ∧ ∃ a0, x0 = .ref a0 ∧ BlkO T.C_Block Hb a0 b0 := by
          cases pb with
          | cons q t => exact ⟨_, _, rfl, q⟩
        have at0 : atI (V.ref a0 :: ys') 0 = some (V.ref a0) := by simp [atI, ixN]
        refine ⟨_, rfl, b, _, _, _, rfl, rfl, SqL.of hbb, at0, a0, T.C_Block, dx, _, _, rfl, h0, T.cl_Block, T.n_Block_counts, rfl, c0, _, rfl, .inl (SqL.of hc0), fun l1 hl1 => ?_⟩
        generalize hG : upd Hb l1 (.lst (b0.2.1.map V.int)) = Hc
        have ec := exG hG hl1
        have h1c := atG hG
        clear hG
        have Ec := ext eb ec
        have lf : b0.2.1.length = ts.length := gb.len
        refine ⟨_, rfl, _, rfl, [c, l1], rfl, rfl, all2 (sqL (Ec _ _ hc)) (sqL h1c), fun l2 hl2 => ?_⟩
        have nl12 : l1 ≠ l2 := ne_of_none h1c hl2
        refine lc_vals (CZ.walk_rows (xss := [cs.map V.int, b0.2.1.map V.int]) (n := ts.length) (lens2 (by rw [List.length_map, hl]) (by rw [List.length_map, lf]))) ((List.zipWith (fun x y => x - y) cs b0.2.1).map V.int) (by rw [List.length_map, List.length_zipWith, hl, lf, Nat.min_self]) (by omega) hl2 (fun H3 e => .cons (sqL (e _ _ (Ec _ _ hc))) (.cons (sqL (e _ _ h1c)) .nil)) ?_ (gmono_tup (gmono_cons gmono_name (gmono_cons gmono_name gmono_nil))) ?_
        · intro j y H6 H7 R hj e yy kk2
          obtain ⟨Tb, u, v, rfl, hTb, rfl, hu, hv⟩ := yints2 yy
          refine ⟨Tb, _, rfl, SqT.of upd_same, rfl, _, _, rfl, _, _, rfl, rfl, ?_⟩
          refine ⟨rfl, _, rfl, _, rfl, _, _, rfl, rfl, ?_⟩
          refine kk2 _ _ (exn hTb) ?_
          rw [List.getElem?_map, List.getElem?_zipWith, hu, hv]
          rfl
        intro Hd ed hl2d
        dsimp only [gName]
        have E8 := ext ec ed
        refine ⟨_, rfl, b, _, _, _, rfl, rfl, SqL.of (E8 _ _ hbb), at0, a0, T.C_Block, dx, _, _, rfl, E8 _ _ h0, T.cl_Block, T.n_Block_mean, rfl, _, rfl, _, _, rfl, rfl, _, rfl, _, _, rfl, rfl, n0, ?_⟩
        refine ⟨_, rfl, _, rfl, by show 3 ≤ sizeLine; decide, ?_⟩
        (intro r nr; generalize hGr : upd _ r _ = He; have eHe := exG hGr nr; have hr := atG hGr; clear hGr)
        have nn : ∀ z, Hb z = none → H z = none := fun z hz => by
          cases h : H z with
          | none => rfl
          | some o => rw [eb _ _ h] at hz; cases hz
        have nc : ∀ z, Hc z = none → H z = none := fun z hz => by
          cases h : H z with
          | none => rfl
          | some o => rw [Ec _ _ h] at hz; cases hz
        have nr0 : H r = none := by
          cases h : H r with
          | none => rfl
          | some o => rw [ed _ _ (Ec _ _ h)] at nr; cases nr
        have ev : callV n p ts cs d = (b0.1 - p) % n := by unfold callV; rw [eb0]
        refine kk r l1 l2 He (ext (ext Ec ed) eHe) (by rw [ev]; exact hr) (by rw [eb0]; exact eHe _ _ (ed _ _ h1c)) ?_ (nn l1 hl1) (nc l2 hl2) nr0 nl12
        unfold bwdL
        rw [eb0]
        exact eHe _ _ hl2d
end

theorem two_dvd {n a b p f : Int} (hn : 0 < n) (hf : (b - a) % n / gcdI ((b - a) % n) n * f % (n / gcdI ((b - a) % n) n) = 1 % (n / gcdI ((b - a) % n) n)) {e : Nat} (h1 : (p - a) % n * 2 ^ e % gcdI ((b - a) % n) n = 0) :
    n ∣ (p - a) % n * 2 ^ e / gcdI ((b - a) % n) n * f % (n / gcdI ((b - a) % n) n) * (b - a) - 2 ^ e * (p - a) := by
  have G0 : 0 < gcdI ((b - a) % n) n := by
    have := gcd_pos2 (p := (b - a) % n) (n := n) (by omega)
    show (0 : Int) < ((Int.gcd ((b - a) % n) n : Nat) : Int)
    omega
  have Gn : gcdI ((b - a) % n) n ∣ n := Int.gcd_dvd_right _ _
  have Gg : gcdI ((b - a) % n) n ∣ (b - a) % n := Int.gcd_dvd_left _ _
  have cong : ∀ j : Int, n ∣ j * ((b - a) % n) - (p - a) % n * 2 ^ e → n ∣ j * (b - a) - 2 ^ e * (p - a) := fun j h => by
    have q1 : n ∣ j * ((b - a) % n - (b - a)) := Int.dvd_mul_of_dvd_right (emod_dvd _ _)
    have q2 : n ∣ 2 ^ e * ((p - a) % n - (p - a)) := Int.dvd_mul_of_dvd_right (emod_dvd _ _)
    have := Int.dvd_add (Int.dvd_sub h q1) q2
    exact (congrArg (n ∣ ·) (by grind)).mp this
  refine cong _ ?_
  generalize (b - a) % n = g at *
  generalize (p - a) % n = d at *
  generalize gcdI g n = G at *
  obtain ⟨N, rfl⟩ := Gn
  obtain ⟨h, rfl⟩ := Gg
  have N0 : 0 < N := by
    by_cases q : 0 < N
    · exact q
    · have := Int.mul_nonneg (show 0 ≤ G by omega) (show 0 ≤ -N by omega)
      rw [Int.mul_neg] at this
      omega
  rw [Int.mul_ediv_cancel_left _ (by omega), Int.mul_ediv_cancel_left _ (by omega)] at hf
  rw [Int.mul_ediv_cancel_left _ (by omega)]
  have hf2 : N ∣ h * f - 1 := emod_eq_iff.mp hf
  obtain ⟨X, hX⟩ := Int.dvd_of_emod_eq_zero h1
  rw [hX, Int.mul_ediv_cancel_left _ (by omega)]
  have q1 : N ∣ (X * f % N - X * f) * h := Int.dvd_mul_of_dvd_left (emod_dvd _ _)
  have q2 : N ∣ X * (h * f - 1) := Int.dvd_mul_of_dvd_right hf2
  have q3 := Int.dvd_add q1 q2
  have q4 : G * N ∣ G * ((X * f % N - X * f) * h + X * (h * f - 1)) := Int.mul_dvd_mul (Int.dvd_refl G) q3
  exact (congrArg (G * N ∣ ·) (by grind)).mp q4
theorem filter_no {α : Type} (f : α → V) (l : List α) : (l.filter fun _ => false).map f = [] := by simp
theorem eqv_ne0 (ds : List PyData) : (!PyData.eqv (.list []) (.list [])) = false := by simp [PyData.eqv, PyData.eqvAll]
theorem sr5_push {s l : Addr} {H : Hp} {n : Nat} {o : HO} (h : Sr5 H s n) (nl : l ≠ s) : Sr5 (upd H l o) s n := by
  obtain ⟨a, b, c, h1, h2⟩ := h
  exact ⟨a, b, c, by rw [upd_ne (Ne.symm nl)]; exact h1, h2⟩
theorem xb_app5 {s D : Addr} {H H2 : Hp} {o : HO} (xb : XB s H H2) (hD : H D = none) : XB s H (L2.upd H2 D o) := fun c u n z => by
  rw [upd_ne (ne_of_none z hD)]
  exact xb c u n z
section
variable {P : Program} {w : World} {K : PySem.W.Frag} {mg : Str → Option Value} {base : Heap}
def sp_law_is_sum : Sp := fun vs H Q _ => ∃ (n p : Int) (d : Nat) (a c : Addr) (ts cs : List Int), vs = [.int n, .ref a, .int p, .int d, .ref c] ∧ 1 ≤ n ∧ 0 ≤ p ∧ p < n ∧ n.natAbs < 2 ^ 4000 ∧ d ≤ 1000 ∧ H a = some (.lst (ts.map V.int)) ∧ H c = some (.lst (cs.map V.int)) ∧ cs.length = ts.length ∧ ts.length ≤ 100 ∧ (∀ t ∈ ts, 0 ≤ t ∧ t < n) ∧ (∀ x ∈ cs, 0 ≤ x ∧ x ≤ 2 ^ d) ∧ cs.sum = 2 ^ d ∧ n ∣ wsum cs ts - 2 ^ d * p ∧ ∀ H2, Ex H H2 → Q (.bl true) H2
theorem ok_law_is_sum (T : TX K mg) : FnOk P w K mg base CX0 1 T.f_law_is_sum T.fd_law_is_sum ["_law_ring", "_law_goals", "_law_spot", "_law_depth", "_law_amounts"] sp_law_is_sum := by
  refine T.F_law_is_sum.ok sc_law_is_sum (fun vs H Q E h => ?_) (fun cdv A outer s H vs Q E hr h => ?_)
  · obtain ⟨n, p, d, a, c, ts, cs, rfl, _⟩ := h
    rfl
  · obtain ⟨n, p, d, a, c, ts, cs, rfl, n1, p0, p1, nB, d1, ha, hc, l, l100, inr, pos, esum, dv, k⟩ := h
    have p2 : (2 : Int) ^ d ≤ 2 ^ 1000 := pow2_le d1
    have b2 : ∀ x : Int, 0 ≤ x → x ≤ 2 ^ d → x.natAbs < 2 ^ 5000 := fun x h0 h1 => by
      have h2 : x ≤ 2 ^ 1000 := Int.le_trans h1 p2
      have h4 : x.natAbs ≤ 2 ^ 1000 := by
        have : ((2 ^ 1000 : Nat) : Int) = (2 : Int) ^ 1000 := by simp
        omega
      exact Nat.lt_of_le_of_lt h4 (Nat.pow_lt_pow_right (by decide) (by decide))
    have bn : ∀ x : Int, 0 ≤ x → x < n → x.natAbs < 2 ^ 5000 := fun x h0 h1 => Nat.lt_of_lt_of_le (show x.natAbs < 2 ^ 4000 by omega) (Nat.pow_le_pow_right (by decide) (by decide))
    have cB : ∀ x ∈ cs, x.natAbs < 2 ^ 5000 := fun x hx => b2 x (pos x hx).1 (pos x hx).2
    have tB : ∀ x ∈ ts, x.natAbs < 2 ^ 5000 := fun x hx => bn x (inr x hx).1 (inr x hx).2
    refine ⟨_, (pss_cons (ps_if (PW.pt (pw_or (pt_not (pt_val (pe_callB call_isi (by rfl) T.z_isinstance (by decide +kernel) (pa_cons (pv 4) (pa_cons (pe_bltn (v := .ty "list") rfl T.z_list (by decide +kernel) rfl) pa_nil))))) (pw_or1 (pt_cmpR op_ne (pe_callB call_len_seq (by rfl) T.z_len (by decide +kernel) (pa_cons (pv 4) pa_nil)) (pe_callB call_len_seq (by rfl) T.z_len (by decide +kernel) (pa_cons (pv 1) pa_nil)) (nomark _))))) (pss_one (ps_ret pe_bl)) pss_nil) (pss_cons (ps_if (pt_cmpR (r := rNeD K) (op_neD hr.units) (pe_lc (own := [("_law_one", 6)]) (g := (gName 6)) rfl sc_law_is_sum.nd (pi_list (pv 4)) (blkOk_by (N := N_law_is_sum) (sc := defScope s_law_is_sum) (by decide +kernel)) (fun _ _ _ _ _ => (pg_name (i := 6) sc_law_is_sum.nd rfl (Or.inl rfl))) (fun _ _ _ _ _ => (pts_one (PW.pt (pw_or (pt_not (pt_val (pe_callB (r := rIsi K) call_isi (by rfl) T.z_isinstance (by decide +kernel) (pa_cons (pv 6) (pa_cons (pe_bltn (v := .ty "int") rfl T.z_int (by decide +kernel) rfl) pa_nil))))) (pw_or (pt_val (pe_callB (r := rIsi K) call_isi (by rfl) T.z_isinstance (by decide +kernel) (pa_cons (pv 6) (pa_cons (pe_bltn (v := .ty "bool") rfl T.z_bool (by decide +kernel) rfl) pa_nil)))) (pw_or1 (pt_cmpR op_lt (pv 6) pe_int (nomark _)))))))) (fun _ _ _ _ _ => (pv 6))) (pe_lst pa_nil) (nomark _)) (pss_one (ps_ret pe_bl)) pss_nil) (pss_cons (ps_set (i := 5) sc_law_is_sum.nd rfl (Or.inl rfl) (pe_callB (cr_sum rfl) (by rfl) T.z_sum (by decide +kernel) (pa_cons (pe_lc (own := [("_law_amount", 7), ("_law_goal", 8)]) (g := (gTup K 2 (gCons (gName 7) (gCons (gName 8) gNil)))) rfl sc_law_is_sum.nd (CZ.pi_z2 (fl := [false, false]) rfl (by rfl) T.z_zip (pa_cons (pv 4) (pa_cons (pv 1) pa_nil))) (blkOk_by (N := N_law_is_sum) (sc := defScope s_law_is_sum) (by decide +kernel)) (fun _ _ _ _ _ => (pg_tup rfl (pgs_cons (pg_name (i := 7) sc_law_is_sum.nd rfl (Or.inl rfl)) (pgs_cons (pg_name (i := 8) sc_law_is_sum.nd rfl (Or.inl rfl)) pgs_nil)))) (fun _ _ _ _ _ => pts_nil) (fun _ _ _ _ _ => (pe_op op_mulI (pv 7) (pv 8)))) pa_nil))) (pss_one (ps_ret (pe_and (pe_cmpR op_eq (pe_callB (cr_sum rfl) (by rfl) T.z_sum (by decide +kernel) (pa_cons (pv 4) pa_nil)) (pe_op op_shlW pe_int (pv 3)) (nomark _)) (pe_one (pe_cmpR op_eq (pe_op op_mod (pe_op op_sub (pv 5) (pe_op op_shlW (pv 2) (pv 3))) (pv 0)) pe_int (nomark _))))))))), ?_⟩
    refine ⟨_, rfl, _, _, _, _, true, rfl, .ty _, .base (.lst hc), kit_ty (by decide +kernel), _, rfl, itf rfl ?_⟩
    refine ⟨_, rfl, c, _, rfl, .inl (SqL.of hc), _, rfl, a, _, rfl, .inl (SqL.of ha), rfl, _, rfl, itf (by rw [List.length_map, List.length_map, l]; simp) ?_⟩
    refine ⟨_, rfl, c, rfl, ⟨_, SqL.of hc⟩, fun D hD => ?_⟩
    refine lc_filt (walk_list (xs := cs.map V.int)) cs (fun _ => false) V.int (by rw [List.length_map]) (by rw [List.length_map]; omega) hD (fun Hx ex => SqL.of (ex _ _ hc)) ?_ ?_
    · rintro i x t Hx _ R S ht ex ⟨rfl, hx⟩ kY kN
      obtain ⟨t', ht', rfl⟩ := map_get hx
      obtain rfl : t' = t := Option.some.inj (ht'.symm.trans ht)
      have t0 := pos t' (List.mem_of_getElem? ht)
      exact ⟨rfl, _, rfl, _, _, _, _, true, rfl, .ty _, .base (.int _), kit_ty (by decide +kernel), _, rfl, itf rfl ⟨_, rfl, _, _, _, _, false, rfl, .ty _, .base (.int _), kit_ty (by decide +kernel), _, rfl, itf rfl ⟨_, rfl, _, _, rfl, rfl, _, rfl, itf (decide_eq_false (by omega)) (kN _ exr rfl)⟩⟩⟩
    intro H1 e1 hD1
    refine ⟨slen rfl, ?_⟩
    (intro en nen; generalize hGen : upd _ en _ = H2; have eH2 := exG hGen nen; have hen := atG hGen; clear hGen)
    have E2 := ext e1 eH2
    refine ⟨_, _, .lst (SqL.of (eH2 _ _ hD1)) (by rw [filter_no]; exact .nil), .lst (SqL.of hen) .nil, (sh_list (n := 59) (ds := []) (fun _ h => nomatch h)).ok, (sh_list (n := 59) (ds := []) (fun _ h => nomatch h)).ok, _, rfl, itf (eqv_ne0 []) ?_⟩
    refine ⟨_, rfl, _, rfl, [c, a], rfl, rfl, all2 (sqL (E2 _ _ hc)) (sqL (E2 _ _ ha)), fun D2 hD2 => ?_⟩
    refine lc_vals (CZ.walk_rows (xss := [cs.map V.int, ts.map V.int]) (n := ts.length) (lens2 (by rw [List.length_map, l]) (by rw [List.length_map]))) ((List.zipWith (fun w x => w * x) cs ts).map V.int) (by rw [List.length_map, List.length_zipWith, l, Nat.min_self]) (by omega) hD2 (fun H3 e => .cons (sqL (e _ _ (E2 _ _ hc))) (.cons (sqL (e _ _ (E2 _ _ ha))) .nil)) ?_ (gmono_tup (gmono_cons gmono_name (gmono_cons gmono_name gmono_nil))) ?_
    · intro j y H6 H7 R hj e yy kk
      obtain ⟨Tb, p, d, rfl, hTb, rfl, hp, hdd⟩ := yints2 yy
      refine ⟨Tb, _, rfl, SqT.of upd_same, rfl, _, _, rfl, _, _, rfl, rfl, ?_⟩
      refine ⟨rfl, _, rfl, _, rfl, _, _, rfl, rfl, (wide_mul (cB p (List.mem_of_getElem? hp)) (tB d (List.mem_of_getElem? hdd)) (by decide) (by decide) (by decide)).ok, ?_⟩
      refine kk _ _ (exn hTb) ?_
      rw [List.getElem?_map, List.getElem?_zipWith, hp, hdd]
      rfl
    intro H3 e3 hD3
    refine ⟨D2, _, rfl, SqL.of hD3, ?_⟩
    have E3 := ext E2 e3
    dsimp only [gName]
    refine ⟨_, rfl, c, cs, rfl, SqL.of (E3 _ _ hc), _, rfl, _, _, rfl, rfl, shl_ok (n := 1) (by decide) (by omega), rfl, _, rfl, itt ?_ ?_⟩
    · show decide (V.int cs.sum = V.int (1 * 2 ^ (d : Int).toNat)) = true
      rw [esum, Int.one_mul, Int.toNat_natCast]
      simp
    (repeat (first | refine ⟨rfl, ?_⟩ | refine ⟨_, rfl, ?_⟩ | refine ⟨_, _, rfl, rfl, ?_⟩ | refine ⟨_, _, rfl, ?_⟩ | refine ⟨slen rfl, ?_⟩ | refine ⟨⟨by decide, by decide +kernel⟩, ?_⟩ | refine ⟨⟨by decide, by decide, by decide⟩, ?_⟩ | refine ⟨(by show (0 : Int) < _; first | decide | assumption | omega), ?_⟩ | refine ⟨mul_ok (by first | exact .inr (by decide) | exact .inl (by decide)), ?_⟩))
    refine ⟨shl_ok (n := 4000) (by omega) (by omega), _, _, rfl, rfl, _, rfl, _, _, rfl, rfl, (by show 0 < n; omega), rfl, ?_⟩
    refine (congrArg (fun b => Q (V.bl b) H3) (decide_eq_true (congrArg V.int ?_))).mpr (k _ E3)
    have e9 : p * 2 ^ (d : Int).toNat = 2 ^ d * p := by rw [Int.toNat_natCast, Int.mul_comm]
    show ((List.zipWith (fun w x => w * x) cs ts).sum - p * 2 ^ (d : Int).toNat) % n = 0
    rw [e9]
    exact Int.emod_eq_zero_of_dvd dv
end

section
variable {P : Program} {w : World} {K : PySem.W.Frag} {mg : Str → Option Value} {base : Heap}
def sp_law_gcd : Sp := fun vs H Q _ => ∃ a b : Int, vs = [.int a, .int b] ∧ 0 ≤ a ∧ 0 ≤ b ∧ Q (.int (gcdI a b)) H
theorem ok_law_gcd (T : TX K mg) : FnOk P w K mg base CX0 1 T.f_law_gcd T.fd_law_gcd ["_law_a", "_law_b"] sp_law_gcd := by
  refine T.F_law_gcd.ok sc_law_gcd (fun vs H Q E h => ?_) (fun cdv A outer s H vs Q E hr h => ?_)
  · obtain ⟨a, b, rfl, _⟩ := h
    rfl
  · obtain ⟨a0, b0, rfl, h1, h2, k⟩ := h
    refine ⟨_, (pss_cons (ps_while PassesOwn.never (pt_cmpR op_ne (pv 1) pe_int (nomark _)) (pss_one (ps_par (i := 0) (j := 1) rfl sc_law_gcd.nd rfl rfl (by decide) rfl rfl (pa_cons (pv 1) (pa_cons (pe_op op_mod (pv 0) (pv 1)) pa_nil)) (by rfl)))) (pss_one (ps_ret (pe_callB call_abs (by rfl) T.z_abs (by decide +kernel) (pa_cons (pv 0) pa_nil))))), ?_⟩
    refine ⟨fun m σ H2 => ∃ a b : Int, σ = [some (.int a), some (.int b)] ∧ H2 = H ∧ 0 ≤ a ∧ 0 ≤ b ∧ Int.gcd a b = Int.gcd a0 b0 ∧ m = b.toNat, ⟨_, a0, b0, rfl, rfl, h1, h2, rfl, rfl⟩, ?_⟩
    rintro m σ _ ⟨a, b, rfl, rfl, ha, hb, hg, rfl⟩
    refine ⟨_, rfl, rfl, _, rfl, ?_⟩
    by_cases hz : b = 0
    · subst hz
      refine itf (by simp) ⟨_, rfl, a, rfl, ?_⟩
      rw [if_neg (by omega)]
      have e : (Int.gcd a 0 : Nat) = a.natAbs := by simp
      have e2 : gcdI a0 b0 = a := by
        show ((Int.gcd a0 b0 : Nat) : Int) = a
        rw [← hg, e]
        omega
      rw [e2] at k
      exact k
    · refine itt (by rw [dec_int]; simp [hz]) ⟨_, fun _ _ h => h, ?_⟩
      have q1 := Int.emod_lt_of_pos a (show 0 < b by omega)
      have q2 := Int.emod_nonneg a hz
      exact ⟨_, rfl, _, rfl, _, rfl, _, _, rfl, rfl, (by show 0 < b; omega), _, _, rfl, _, (by show (a % b).toNat < b.toNat; omega), _, _, rfl, rfl, hb, q2, by rw [gcd_turn hz, hg], rfl⟩
end

section
variable {P : Program} {w : World} {K : PySem.W.Frag} {mg : Str → Option Value} {base : Heap}
def sp_law_inverse : Sp := fun vs H Q _ => ∃ (u m : Int), vs = [.int u, .int m] ∧ 1 ≤ m ∧ m ≤ 10 ^ 45 ∧ Int.gcd u m = 1 ∧ ∀ r H2, 0 ≤ r → r < m → u * r % m = 1 % m → Ex H H2 → Q (.int r) H2
theorem ok_law_inverse (T : TX K mg) : FnOk P w K mg base CX0 1 T.f_law_inverse T.fd_law_inverse ["_law_number", "_law_modulus"] sp_law_inverse := by
  refine T.F_law_inverse.ok sc_law_inverse (fun vs H Q E h => ?_) (fun cdv A outer s H vs Q E hr h => ?_)
  · obtain ⟨u, m, rfl, _⟩ := h
    rfl
  · obtain ⟨u, m, rfl, m1, m2, co, k⟩ := h
    refine ⟨_, (pss_cons (ps_par (i := 2) (j := 3) rfl sc_law_inverse.nd rfl rfl (by decide) rfl rfl (pa_cons (pe_tup (pa_cons (pv 1) (pa_cons pe_int pa_nil))) (pa_cons (pe_tup (pa_cons (pe_op op_mod (pv 0) (pv 1)) (pa_cons pe_int pa_nil))) pa_nil)) (by rfl)) (pss_cons (ps_while PassesOwn.never (pt_cmpR op_gt (pe_ix ix_tup (pv 3) pe_int (fun _ _ => rfl)) pe_int (nomark _)) (pss_cons (ps_set (i := 4) sc_law_inverse.nd rfl (Or.inl rfl) (pe_op op_fdivW (pe_ix ix_tup (pv 2) pe_int (fun _ _ => rfl)) (pe_ix ix_tup (pv 3) pe_int (fun _ _ => rfl)))) (pss_one (ps_par (i := 2) (j := 3) rfl sc_law_inverse.nd rfl rfl (by decide) rfl rfl (pa_cons (pv 3) (pa_cons (pe_tup (pa_cons (pe_op op_sub (pe_ix ix_tup (pv 2) pe_int (fun _ _ => rfl)) (pe_op op_mulI (pv 4) (pe_ix ix_tup (pv 3) pe_int (fun _ _ => rfl)))) (pa_cons (pe_op op_sub (pe_ix ix_tup (pv 2) pe_int (fun _ _ => rfl)) (pe_op op_mulI (pv 4) (pe_ix ix_tup (pv 3) pe_int (fun _ _ => rfl)))) pa_nil))) pa_nil)) (by rfl))))) (pss_one (ps_ret (pe_op op_mod (pe_ix ix_tup (pv 2) pe_int (fun _ _ => rfl)) (pv 1)))))), ?_⟩
    refine ⟨_, rfl, by show 2 ≤ sizeLine; decide, fun l0 hl0 => ⟨_, rfl, _, rfl, _, _, rfl, rfl, (by show 0 < m; omega), by show 2 ≤ sizeLine; decide, fun h0 hh0 => ⟨_, _, rfl, ?_⟩⟩⟩
    refine ⟨fun j σ H2 => ∃ (lo hi : Addr) (y4 : Option V) (a x b y : Int), σ = [some (.int u), some (.int m), some (.ref lo), some (.ref hi), y4] ∧ Ex H H2 ∧ H2 lo = some (.tup [.int a, .int x]) ∧ H2 hi = some (.tup [.int b, .int y]) ∧ InvI u m a x b y ∧ j = b.toNat, ⟨_, l0, h0, none, m, 0, u % m, 1, rfl, ext (exn hl0) (exn hh0), exn hh0 _ _ upd_same, upd_same, .init m1, rfl⟩, ?_⟩
    rintro j σ H2 ⟨lo, hi, y4, a, x, b, y, rfl, e2, hlo, hhi, inv, rfl⟩
    refine ⟨_, rfl, hi, _, _, _, rfl, rfl, SqT.of hhi, rfl, _, _, rfl, rfl, _, rfl, ?_⟩
    refine ite2 (fun hb => ?_) (fun hb => ?_)
    · have hb : 0 < b := of_decide_eq_true hb
      obtain ⟨inv2, lt⟩ := inv.step hb
      have q0 : 0 ≤ a / b := Int.ediv_nonneg (by have := inv.a1; omega) (by omega)
      have qa : a / b ≤ a := Int.ediv_le_self _ (by have := inv.a1; omega)
      have bb : b.natAbs < 2 ^ 150 := abs45 (by omega) (Int.le_trans inv.bm m2)
      have qq : (a / b).natAbs < 2 ^ 150 := abs45 q0 (Int.le_trans qa (Int.le_trans inv.am m2))
      have yy : y.natAbs < 2 ^ 150 := by
        have := abs45 (n := (y.natAbs : Int)) (by omega) (Int.le_trans inv.ybound m2)
        rw [Int.natAbs_natCast] at this
        exact this
      refine ⟨_, fun _ _ h => h, ?_⟩
      refine ⟨_, rfl, lo, _, _, _, rfl, rfl, SqT.of hlo, rfl, _, rfl, hi, _, _, _, rfl, rfl, SqT.of hhi, rfl, _, _, rfl, rfl, wide_div hb bb (by decide) (by decide), ?_⟩
      refine ⟨_, rfl, _, rfl, lo, _, _, _, rfl, rfl, SqT.of hlo, rfl, _, rfl, _, rfl, hi, _, _, _, rfl, rfl, SqT.of hhi, rfl, _, _, rfl, rfl, (wide_mul qq bb (by decide) (by decide) (by decide)).ok, _, _, rfl, rfl, ?_⟩
      refine ⟨_, rfl, lo, _, _, _, rfl, rfl, SqT.of hlo, rfl, _, rfl, _, rfl, hi, _, _, _, rfl, rfl, SqT.of hhi, rfl, _, _, rfl, rfl, (wide_mul qq yy (by decide) (by decide) (by decide)).ok, _, _, rfl, rfl, by show 2 ≤ sizeLine; decide, fun nt hnt => ?_⟩
      have e3 := exn (o := .tup [.int (a - a / b * b), .int (x - a / b * y)]) hnt
      refine ⟨_, _, rfl, _, (by show (a - a / b * b).toNat < b.toNat; have := inv2.b0; omega), hi, nt, _, b, y, a - a / b * b, x - a / b * y, rfl, ext e2 e3, e3 _ _ hhi, upd_same, inv2, rfl⟩
    · have hb : ¬ 0 < b := fun z => hb (decide_eq_true z)
      obtain rfl : b = 0 := by have := inv.b0; omega
      refine ⟨_, rfl, lo, _, _, _, rfl, rfl, SqT.of hlo, rfl, _, rfl, _, _, rfl, rfl, (by show 0 < m; omega), ?_⟩
      exact k _ _ (mod_lo (by omega)) (mod_hi (by omega)) (inv.done co) e2
end

theorem Sr5.app {s D : Addr} {H : Hp} {o : HO} {m : Nat} (h : Sr5 H s m) (n : D ≠ s) : Sr5 (upd H D o) s m := by
  obtain ⟨a, b, c, z, q⟩ := h
  exact ⟨a, b, c, by rw [upd_ne n.symm]; exact z, q⟩
theorem XB.app5 {s D : Addr} {H H2 : Hp} {o : HO} (xb : XB s H H2) (hD : H D = none) : XB s H (L2.upd H2 D o) := fun c u n z => by
  rw [upd_ne (ne_of_none z hD)]
  exact xb c u n z
section
variable {P : Program} {w : World} {K : PySem.W.Frag} {mg : Str → Option Value} {base : Heap}
def sp_law_targets : Sp := fun vs H Q _ => ∃ (s : Addr) (n b : Int) (m : Nat), vs = [.ref s, .int n, .int b] ∧ Sr5 H s (m + 401) ∧ 0 < n ∧ 1 ≤ b ∧ b ≤ 100 ∧
  ∀ (l : Addr) (ts : List Int) H2, H l = none → H2 l = some (.lst (ts.map V.int)) → ts ≠ [] → ts.length ≤ 100 → (∀ t ∈ ts, 0 ≤ t ∧ t < n) → ts.Nodup → XB s H H2 → Sr5 H2 s m → Q (.ref l) H2
theorem ok_law_targets (T : TX K mg) : FnOk P w K mg base CX0 3 T.f_law_targets T.fd_law_targets ["_law_source_here", "_law_ring", "_law_bound"] sp_law_targets := by
  refine T.F_law_targets.ok sc_law_targets (fun vs H Q E h => ?_) (fun cdv A outer s H vs Q E hr h => ?_)
  · obtain ⟨s, n, b, m, rfl, _⟩ := h
    rfl
  · obtain ⟨s, n, b, m, rfl, hs, n0, b1, b2, k⟩ := h
    refine ⟨_, (pss_cons (ps_set (i := 3) sc_law_targets.nd rfl (Or.inl rfl) (pe_lst pa_nil)) (pss_cons (ps_for PassesOwn.never rfl (pi_range1 rfl T.z_range (pa_cons (pe_op op_add pe_int (pe_call (ok_law_take T) (hr.mono (by decide)) rfl T.m_law_take T.F_law_take.kp T.b_law_take .nil pass0 (pa_cons (pv 0) (pa_cons (pv 2) pa_nil)))) pa_nil)) (pg_name (i := 4) sc_law_targets.nd rfl (Or.inl rfl)) (pss_cons (ps_set (i := 5) sc_law_targets.nd rfl (Or.inl rfl) (pe_call (ok_law_large T) hr rfl T.m_law_large T.F_law_large.kp T.b_law_large .nil pass0 (pa_cons (pv 0) (pa_cons (pv 1) pa_nil)))) (pss_one (ps_if (pt_cmpR op_notIn_seq (pv 5) (pv 3) rfl) (pss_one (ps_expr (pe_bm PySem.F.plainAttrs_list PySem.F.slot_list_append PySem.F.type_list_append mt_append (pv 3) (pa_cons (pv 5) pa_nil)))) pss_nil)))) (pss_one (ps_ret (pv 3))))), ?_⟩
    refine ⟨slen rfl, ?_⟩
    (intro fl nfl; generalize hGfl : upd _ fl _ = H1; have eH1 := exG hGfl nfl; have hfl := atG hGfl; clear hGfl)
    have fls : fl ≠ s := hs.ne nfl
    refine ⟨_, rfl, _, rfl, s, b, m + 400, rfl, hs.mono eH1, by omega, Nat.lt_of_le_of_lt (show b.natAbs ≤ 100 by omega) (by decide +kernel), fun r H2 r0 r1 xb2 src2 => ?_⟩
    refine ⟨_, _, rfl, rfl, _, rfl, by omega, by omega, ?_⟩
    have XB2 : XB s H H2 := (XB.of eH1).trans xb2
    refine for_it walk_range (fun i σ Hx => ∃ (y4 y5 : Option V) (ts : List Int), σ = [some (.ref s), some (.int n), some (.int b), some (.ref fl), y4, y5] ∧ Hx fl = some (.lst (ts.map V.int)) ∧ ts.length ≤ i ∧ (1 ≤ i → ts ≠ []) ∧ (∀ t ∈ ts, 0 ≤ t ∧ t < n) ∧ ts.Nodup ∧ XB s H Hx ∧ Sr5 Hx s (m + 4 * (100 - i))) ⟨_, _, [], rfl, xb2 _ _ fls hfl, by simp, fun z => absurd z (by omega), by simp, by simp, XB2, src2.less (by omega)⟩ (fun _ _ _ _ _ => True.intro) ?_ ?_
    · rintro i x σ _ Ha hi ⟨y4, y5, ts, rfl, hla, lt, ne, inr, nod, xba, srca⟩ ⟨rfl, hx⟩
      have hi2 : i < (1 + r).toNat := hi
      refine ⟨_, rfl, _, rfl, s, n, m + 4 * (100 - (i + 1)), rfl, srca.less (by omega), n0, fun p Hb p0 p1 xbb srcb => ?_⟩
      have hlb := xbb _ _ fls hla
      refine ⟨_, rfl, _, rfl, fl, _, rfl, .inl (SqL.of hlb), rfl, flat_ints _, _, rfl, ?_⟩
      rw [in_ints]
      by_cases hm : p ∈ ts
      · refine itf (by simp [hm]) ?_
        exact ⟨_, _, ts, rfl, hlb, by omega, (fun _ z => by rw [z] at hm; cases hm), inr, nod, xba.trans xbb, srcb⟩
      · refine itt (by simp only [decide_eq_false hm]; rfl) ?_
        refine ⟨_, rfl, .inl ⟨rfl, _, SqL.of hlb⟩, _, rfl, fl, _, _, rfl, rfl, hlb, ?_, ?_⟩
        · rw [List.length_map]
          exact Nat.lt_of_le_of_lt (show ts.length ≤ 1000 by omega) (by decide)
        refine ⟨_, _, ts ++ [p], rfl, ?_, by rw [List.length_append]; show _ + 1 ≤ _; omega, fun _ => by simp, fun g hg => ?_, ?_, (xba.trans xbb).app5 nfl, srcb.app fls⟩
        · rw [upd_same, List.map_append]
          rfl
        · rcases List.mem_append.mp hg with h | h
          · exact inr g h
          · rw [List.mem_singleton.mp h]
            exact ⟨p0, p1⟩
        · rw [List.nodup_append]
          exact ⟨nod, by simp, fun a ha b hb z => hm (by rw [← List.mem_singleton.mp hb, ← z]; exact ha)⟩
    · rintro σ Ha ⟨y4, y5, ts, rfl, hla, lt, ne, inr, nod, xba, srca⟩
      have lt : ts.length ≤ (1 + r).toNat := lt
      exact ⟨_, rfl, k fl ts _ nfl hla (ne (by show 1 ≤ (1 + r).toNat; omega)) (by omega) inr nod xba (srca.less (by omega))⟩
end

theorem seqIx {r : Int} {n : Nat} (h0 : 0 ≤ r) (h1 : r < n) (hn : n < 2 ^ 62) : seqIndex? r n = some r.toNat := by
  unfold seqIndex?
  rw [if_neg (show ¬ r < 0 by omega)]
  dsimp only
  rw [if_pos (by rw [Bool.and_eq_true, decide_eq_true_iff, decide_eq_true_iff]; omega)]
theorem erase_map (ys : List Int) (k : Nat) : (ys.map V.int).eraseIdx k = (ys.eraseIdx k).map V.int := by
  induction ys generalizing k with
  | nil => rfl
  | cons a ys ih =>
    cases k with
    | zero => rfl
    | succ k =>
      show V.int a :: (ys.map V.int).eraseIdx k = V.int a :: (ys.eraseIdx k).map V.int
      rw [ih]
theorem perm_at {α : Type} : ∀ {ys : List α} {k : Nat} (h : k < ys.length), (ys[k] :: ys.eraseIdx k).Perm ys
  | a :: ys, 0, _ => List.Perm.refl _
  | a :: ys, k + 1, h => by
    have ih := perm_at (ys := ys) (k := k) (by simpa using h)
    show ((ys[k]'(by simpa using h)) :: a :: ys.eraseIdx k).Perm (a :: ys)
    exact (List.Perm.swap _ _ _).trans (ih.cons a)
section
variable {P : Program} {w : World} {K : PySem.W.Frag} {mg : Str → Option Value} {base : Heap}
def sp_law_shuffled : Sp := fun vs H Q _ => ∃ (s l : Addr) (ts : List Int) (m : Nat), vs = [.ref s, .ref l] ∧ Sr5 H s (m + ts.length) ∧ H l = some (.lst (ts.map V.int)) ∧ l ≠ s ∧ ts.length ≤ 1000 ∧
  ∀ (q : Addr) (ys : List Int) H2, H q = none → H2 q = some (.lst (ys.map V.int)) → ys.Perm ts → XB s H H2 → Sr5 H2 s m → Q (.ref q) H2
theorem ok_law_shuffled (T : TX K mg) : FnOk P w K mg base CX0 2 T.f_law_shuffled T.fd_law_shuffled ["_law_source_here", "_law_items"] sp_law_shuffled := by
  refine T.F_law_shuffled.ok sc_law_shuffled (fun vs H Q E h => ?_) (fun cdv A outer s H vs Q E hr h => ?_)
  · obtain ⟨s, l, ts, m, rfl, _⟩ := h
    rfl
  · obtain ⟨s, l, ts, m, rfl, hs, hl, nls, ll, k⟩ := h
    refine ⟨_, (pss_cons (ps_set (i := 2) sc_law_shuffled.nd rfl (Or.inl rfl) (pe_callTy call_list_of (by rfl) T.z_list (by decide +kernel) (pa_cons (pv 1) pa_nil))) (pss_cons (ps_set (i := 3) sc_law_shuffled.nd rfl (Or.inl rfl) (pe_lst pa_nil)) (pss_cons (ps_while PassesOwn.never (pt_cmpR (r := rNeD K) (op_neD hr.units) (pv 2) (pe_lst pa_nil) (nomark _)) (pss_one (ps_expr (pe_bm PySem.F.plainAttrs_list PySem.F.slot_list_append PySem.F.type_list_append mt_append (pv 3) (pa_cons (pe_bm PySem.F.plainAttrs_list PySem.F.slot_list_pop PySem.F.type_list_pop mt_popAt (pv 2) (pa_cons (pe_call (ok_law_take T) hr rfl T.m_law_take T.F_law_take.kp T.b_law_take .nil pass0 (pa_cons (pv 0) (pa_cons (pe_callB call_len_seq (by rfl) T.z_len (by decide +kernel) (pa_cons (pv 2) pa_nil)) pa_nil))) pa_nil)) pa_nil))))) (pss_one (ps_ret (pv 3)))))), ?_⟩
    refine ⟨_, rfl, l, _, rfl, .inl (SqL.of hl), fun pl hpl => ?_⟩
    generalize hG : upd H pl _ = H1
    have e1 := exG hG hpl
    have hp1 := atG hG
    clear hG
    dsimp only [gName]
    refine ⟨slen rfl, ?_⟩
    (intro f nf; generalize hGf : upd _ f _ = H2; have eH2 := exG hGf nf; have hf := atG hGf; clear hGf)
    have nf0 : H f = none := Evl.fresh_back e1 nf
    have E2 := ext e1 eH2
    have nfs : f ≠ s := hs.ne nf0
    have nps : pl ≠ s := hs.ne hpl
    have npf : pl ≠ f := ne_of_none hp1 nf
    dsimp only [gName]
    refine ⟨fun c σ Hx => ∃ ys fs : List Int, σ = [some (.ref s), some (.ref l), some (.ref pl), some (.ref f)] ∧ Hx pl = some (.lst (ys.map V.int)) ∧ Hx f = some (.lst (fs.map V.int)) ∧ (ys ++ fs).Perm ts ∧ XB s H Hx ∧ Sr5 Hx s (m + ys.length) ∧ c = ys.length,
      ⟨_, ts, [], rfl, eH2 _ _ hp1, hf, by rw [List.append_nil], XB.of E2, hs.mono E2, rfl⟩, ?_⟩
    rintro c σ Hx ⟨ys, fs, rfl, hpx, hfx, pm, xbx, srcx, rfl⟩
    have lall : ys.length + fs.length = ts.length := by
      rw [← List.length_append]
      exact pm.length_eq
    refine ⟨_, rfl, slen rfl, ?_⟩
    (intro el nel; generalize hGel : upd _ el _ = H3; have eH3 := exG hGel nel; have hel := atG hGel; clear hGel)
    have xb3 := xbx.trans (XB.of eH3)
    refine ⟨iL ys, iL [], dp_ilist (eH3 _ _ hpx), dp_ilist hel, (sh_ilist _).ok, (sh_ilist _).ok, _, rfl, ?_⟩
    rw [eqv_ilist]
    by_cases c : ys = []
    · subst c
      exact itf (by simp) ⟨_, rfl, k f fs _ nf0 (eH3 _ _ hfx) pm xb3 (srcx.mono eH3)⟩
    refine itt (by simp [c]) ⟨_, fun _ _ h => h, ?_⟩
    have apos := List.length_pos_iff.mpr c
    have hf3 := eH3 _ _ hfx
    have hp3 := eH3 _ _ hpx
    have src3 := srcx.mono eH3
    refine ⟨_, rfl, .inl ⟨rfl, _, SqL.of hf3⟩, _, rfl, .inl ⟨rfl, _, SqL.of hp3⟩, _, rfl, _, rfl, pl, _, rfl, .inl (SqL.of hp3), s, _, m + (ys.length - 1), rfl, src3.less (by omega), ?_, ?_, fun r2 H4 r20 r21 xb4 src4 => ?_⟩
    · rw [List.length_map]
      omega
    · rw [List.length_map]
      exact Nat.lt_of_le_of_lt (show _ ≤ 1000 by omega) (by decide +kernel)
    rw [List.length_map] at r21
    have hp4 := xb4 _ _ nps hp3
    have hf4 := xb4 _ _ nfs hf3
    have ily : r2.toNat < ys.length := by omega
    refine ⟨pl, _, r2, r2.toNat, V.int ys[r2.toNat], rfl, rfl, hp4, ?_, ?_, ?_, ?_, ?_⟩
    · omega
    · omega
    · rw [List.length_map]
      exact seqIx r20 r21 (Nat.lt_of_le_of_lt (show ys.length ≤ 1000 by omega) (by decide))
    · rw [List.getElem?_map, List.getElem?_eq_getElem ily]
      rfl
    rw [erase_map]
    have hf5 : upd H4 pl (.lst ((ys.eraseIdx r2.toNat).map V.int)) f = some (.lst (fs.map V.int)) := by
      rw [upd_ne (Ne.symm npf)]
      exact hf4
    refine ⟨f, _, _, rfl, rfl, hf5, ?_, ?_⟩
    · rw [List.length_map]
      exact Nat.lt_of_le_of_lt (show fs.length ≤ 1000 by omega) (by decide)
    have le : (ys.eraseIdx r2.toNat).length = ys.length - 1 := List.length_eraseIdx_of_lt ily
    refine ⟨(ys.eraseIdx r2.toNat).length, by omega, ys.eraseIdx r2.toNat, fs ++ [ys[r2.toNat]], rfl, ?_, ?_, ?_, ((xb3.trans xb4).app5 hpl).app5 nf0, by rw [le]; exact (src4.app nps).app nfs, rfl⟩
    · rw [upd_ne npf, upd_same]
    · rw [upd_same, List.map_append]
      rfl
    · refine List.Perm.trans ?_ pm
      rw [← List.append_assoc]
      refine List.Perm.trans (List.perm_append_comm) ?_
      show ((ys[r2.toNat] :: ys.eraseIdx r2.toNat) ++ fs).Perm _
      exact (perm_at ily).append_right fs
end

theorem made_dvd {n d T r k : Int} (n0 : 0 < n) (d0 : 0 < d) (hT : T % gcdI d n = 0) (hr : d / gcdI d n * r % (n / gcdI d n) = 1 % (n / gcdI d n)) :
    n ∣ T - d * ((T / gcdI d n * r % (n / gcdI d n) + n / gcdI d n * k) % n) := by
  have G0 : 0 < gcdI d n := by
    have : 0 < Int.gcd d n := Int.gcd_pos_iff.mpr (.inr (by omega))
    show (0 : Int) < ((Int.gcd d n : Nat) : Int)
    omega
  obtain ⟨R, hR⟩ : gcdI d n ∣ n := Int.gcd_dvd_right _ _
  obtain ⟨D, hD⟩ : gcdI d n ∣ d := Int.gcd_dvd_left _ _
  obtain ⟨X, hX⟩ := Int.dvd_of_emod_eq_zero hT
  generalize gcdI d n = g at *
  have eR : n / g = R := by rw [hR, Int.mul_ediv_cancel_left _ (by omega)]
  have eD : d / g = D := by rw [hD, Int.mul_ediv_cancel_left _ (by omega)]
  have eX : T / g = X := by rw [hX, Int.mul_ediv_cancel_left _ (by omega)]
  rw [eR, eD] at hr
  rw [eX, eR]
  have h1 : R ∣ D * r - 1 := emod_eq_iff.mp hr
  have h2 : R ∣ X * r % R - X * r := emod_dvd _ _
  have h3 : R ∣ D * (X * r % R) - X := by
    have := Int.dvd_add (Int.dvd_mul_of_dvd_right (b := D) h2) (Int.dvd_mul_of_dvd_right (b := X) h1)
    exact (congrArg (R ∣ ·) (by grind)).mp this
  have h4 : n ∣ g * (D * (X * r % R) - X) := by
    rw [hR]
    exact Int.mul_dvd_mul (Int.dvd_refl g) h3
  have h5 : n ∣ (X * r % R + R * k) % n - (X * r % R + R * k) := emod_dvd _ _
  have h6 : n ∣ d * ((X * r % R + R * k) % n - (X * r % R + R * k)) := Int.dvd_mul_of_dvd_right h5
  have h7 : n ∣ D * k * (g * R) := by
    rw [← hR]
    exact Int.dvd_mul_left _ _
  have h8 := Int.dvd_neg.mpr (Int.dvd_add (Int.dvd_add h4 h6) h7)
  refine (congrArg (n ∣ ·) ?_).mp h8
  rw [hD, hX]
  grind
theorem made_co {n d : Int} (n0 : 0 < n) : Int.gcd (d / gcdI d n) (n / gcdI d n) = 1 := by
  have h : 0 < Int.gcd d n := Int.gcd_pos_iff.mpr (.inr (by omega))
  exact Int.gcd_ediv_gcd_ediv_gcd h
/-- amounts for the targets, 2^d in all, so that their sum is a multiple of g -/
structure AmtAt (g : Int) (ts : List Int) (d : Nat) (cs : List Int) : Prop where
  len : cs.length = ts.length
  pos : ∀ x ∈ cs, 0 ≤ x
  sum : cs.sum = 2 ^ d
  dvd : wsum cs ts % g = 0
theorem sum_set : ∀ {cs : List Int} {i : Nat} {v : Int}, i < cs.length → (cs.set i v).sum = cs.sum - cs.getD i 0 + v
  | c :: cs, 0, v, _ => by
    show v + cs.sum = c + cs.sum - c + v
    omega
  | c :: cs, i + 1, v, h => by
    have ih := sum_set (cs := cs) (i := i) (v := v) (by simpa using h)
    show c + (cs.set i v).sum = c + cs.sum - cs.getD i 0 + v
    omega
theorem mem_set_of {cs : List Int} {i : Nat} {v x : Int} (h : x ∈ cs.set i v) : x = v ∨ x ∈ cs := by
  rcases List.mem_or_eq_of_mem_set h with h | h
  · exact .inr h
  · exact .inl h
theorem cut_fr (xs : List V) (k : Nat) : cutV xs (some (k : Int)) none = xs.drop k := by
  unfold cutV
  rw [HT.sIx_nat, HT.sIx_none]
  by_cases h : k ≤ xs.length
  · rw [Nat.min_eq_left h]
    exact List.take_of_length_le (by rw [List.length_drop]; omega)
  · rw [Nat.min_eq_right (by omega), List.drop_of_length_le (Nat.le_refl _), List.drop_of_length_le (by omega)]
    simp
theorem rep_zero (n : Nat) : (List.replicate n [V.int 0]).flatten = (List.replicate n (0 : Int)).map V.int := by
  induction n with
  | zero => rfl
  | succ n ih =>
    rw [List.replicate_succ, List.flatten_cons, ih, List.replicate_succ]
    rfl
theorem wsum_rep : ∀ (n : Nat) (ts : List Int), wsum (List.replicate n 0) ts = 0
  | 0, _ => by simp [wsum]
  | n + 1, [] => by simp [wsum]
  | n + 1, t :: ts => by
    rw [List.replicate_succ, wsum_cons, wsum_rep n ts, Int.zero_mul]
    rfl
theorem rep_sum (n : Nat) : (List.replicate n (0 : Int)).sum = 0 := by
  induction n with
  | zero => rfl
  | succ n ih => rw [List.replicate_succ, List.sum_cons, ih]; rfl
theorem set_map {f : Int → V} : ∀ (cs : List Int) (i : Nat) (v : Int), (cs.map f).set i (f v) = (cs.set i v).map f
  | [], _, _ => rfl
  | c :: cs, 0, v => rfl
  | c :: cs, i + 1, v => by
    show f c :: (cs.map f).set i (f v) = f c :: (cs.set i v).map f
    rw [set_map cs i v]
theorem amt_first {g : Int} {ts : List Int} {d : Nat} (ne : ts ≠ []) (hg : g ∣ 2 ^ d) : AmtAt g ts d ((List.replicate ts.length 0).set 0 (2 ^ d)) := by
  cases ts with
  | nil => exact absurd rfl ne
  | cons t ts =>
    have p := Int.pow_pos (n := (2 : Int)) (m := d) (by decide)
    rw [List.length_cons, List.replicate_succ]
    refine ⟨by simp, fun x hx => ?_, ?_, ?_⟩
    · rcases List.mem_cons.mp hx with rfl | hx
      · omega
      · rw [(List.mem_replicate.mp hx).2]
        exact Int.le_refl _
    · show 2 ^ d + (List.replicate ts.length (0 : Int)).sum = _
      rw [rep_sum]
      omega
    · show (2 ^ d * t + wsum (List.replicate ts.length 0) ts) % g = 0
      rw [wsum_rep, Int.add_zero]
      exact Int.emod_eq_zero_of_dvd (Int.dvd_mul_of_dvd_left hg)
theorem first_zero : ∀ {ds : List Int}, (0 : Int) ∈ ds → ∃ j : Nat, ds[j]? = some 0 ∧ ∀ (m : Nat) z, m < j → ds[m]? = some z → z ≠ 0
  | [], h => nomatch h
  | a :: ds, h => by
    by_cases c : a = 0
    · exact ⟨0, by rw [c]; rfl, fun m z hm => absurd hm (Nat.not_lt_zero _)⟩
    · rcases List.mem_cons.mp h with e | h
      · exact absurd e.symm c
      obtain ⟨j, h1, h2⟩ := first_zero h
      refine ⟨j + 1, h1, fun m z hm hz => ?_⟩
      cases m with
      | zero => exact (Option.some.inj hz) ▸ c
      | succ m => exact h2 m z (by omega) hz
theorem wsum_bound {n : Int} : ∀ {cs ts : List Int}, cs.length = ts.length → (∀ x ∈ cs, 0 ≤ x) → (∀ t ∈ ts, 0 ≤ t ∧ t < n) → 0 ≤ wsum cs ts ∧ wsum cs ts ≤ cs.sum * n
  | [], [], _, _, _ => by simp [wsum]
  | c :: cs, t :: ts, h, p, q => by
    obtain ⟨h1, h2⟩ := wsum_bound (n := n) (cs := cs) (ts := ts) (by simpa using h) (fun x hx => p x (List.mem_cons_of_mem _ hx)) fun x hx => q x (List.mem_cons_of_mem _ hx)
    have p0 := p c List.mem_cons_self
    obtain ⟨q0, q1⟩ := q t List.mem_cons_self
    have m0 := Int.mul_nonneg p0 q0
    have m1 := Int.mul_le_mul_of_nonneg_left (show t ≤ n by omega) p0
    rw [wsum_cons, List.sum_cons, Int.add_mul]
    omega
/-- what the inner loop draws: nothing yet at the places still to come -/
structure DrawAt (n : Nat) (tot : Int) (tl : List Int) (j : Nat) (y0 : Int) (rest : Int) (ds : List Int) : Prop where
  len : ds.length = n
  pos : ∀ x ∈ ds, 0 ≤ x
  rest0 : 0 ≤ rest
  sum : ds.sum + rest = tot
  zero : ∀ i : Nat, (i : Int) ∉ tl.take j → ds.getD i 0 = 0
theorem getD_set {cs : List Int} {i k : Nat} {v : Int} (h : k ≠ i) : (cs.set i v).getD k 0 = cs.getD k 0 := by
  rw [List.getD_eq_getElem?_getD, List.getD_eq_getElem?_getD, List.getElem?_set_ne (Ne.symm h)]
theorem DrawAt.next {n : Nat} {tot : Int} {tl : List Int} {j : Nat} {y0 rest : Int} {ds : List Int} {a : Nat} {v : Int} (h : DrawAt n tot tl j y0 rest ds) (ht : tl[j]? = some (a : Int)) (nd : tl.Nodup) (ha : a < n) (v0 : 0 ≤ v) (v1 : v ≤ rest) :
    DrawAt n tot tl (j + 1) y0 (rest - v) (ds.set a v) where
  len := by rw [List.length_set]; exact h.len
  pos := fun x hx => by
    rcases mem_set_of hx with rfl | hx
    · exact v0
    · exact h.pos x hx
  rest0 := by omega
  sum := by
    have z : ds.getD a 0 = 0 := h.zero a fun hm => by
      obtain ⟨k, hk⟩ := List.getElem?_of_mem hm
      have hk2 : k < j := by
        have := (List.getElem?_eq_some_iff.mp hk).1
        rw [List.length_take] at this
        omega
      rw [List.getElem?_take_of_lt hk2] at hk
      have := (List.getElem?_inj (by have := (List.getElem?_eq_some_iff.mp hk).1; exact this) nd).mp (hk.trans ht.symm)
      omega
    rw [sum_set (by rw [h.len]; exact ha), z]
    have := h.sum
    omega
  zero := fun i hi => by
    rw [take_more ht] at hi
    rw [List.mem_append, List.mem_singleton, not_or] at hi
    rw [getD_set (by omega)]
    exact h.zero i hi.1
theorem atI_cast {α : Type} {xs : List α} {k : Nat} {v : α} (h : xs[k]? = some v) : atI xs (k : Int) = some v := by
  unfold atI
  rw [Evl.ixN_nat (List.getElem?_eq_some_iff.mp h).1]
  exact h
theorem map_at (f : Int → V) {cs : List Int} {k : Nat} {v : Int} (h : cs[k]? = some v) : (cs.map f)[k]? = some (f v) := by
  rw [List.getElem?_map, h]
  rfl
def idxL (n : Nat) : List Int := (List.range n).map fun i => ((i : Nat) : Int)
theorem rgV_idx (n : Nat) : rgV 0 (n : Int) = (idxL n).map V.int := by
  unfold rgV idxL
  rw [List.map_map, show ((n : Int) - 0).toNat = n by omega]
  refine List.map_congr_left fun i _ => ?_
  show V.int (0 + (i : Int)) = V.int i
  rw [Int.zero_add]
theorem idx_mem {n : Nat} {y : Int} : y ∈ idxL n ↔ ∃ a : Nat, a < n ∧ y = a := by
  unfold idxL
  rw [List.mem_map]
  constructor
  · rintro ⟨a, h, rfl⟩
    exact ⟨a, List.mem_range.mp h, rfl⟩
  · rintro ⟨a, h, rfl⟩
    exact ⟨a, List.mem_range.mpr h, rfl⟩
theorem idx_nodup (n : Nat) : (idxL n).Nodup := by
  unfold idxL
  rw [List.Nodup, List.pairwise_map]
  exact (List.nodup_range (n := n)).imp fun h z => h (Int.ofNat.inj z)
theorem cut_tail (ys : List Int) : cutV (ys.map V.int) (some 1) none = ys.tail.map V.int := by
  have h := cut_fr (ys.map V.int) 1
  rw [show ((1 : Nat) : Int) = 1 from rfl] at h
  rw [h, List.drop_one, List.map_tail]
section
variable {P : Program} {w : World} {K : PySem.W.Frag} {mg : Str → Option Value} {base : Heap}
def sp_law_made : Sp := fun vs H Q _ => ∃ (s g : Addr) (n : Int) (d m : Nat) (ts : List Int), vs = [.ref s, .int n, .ref g, .int d] ∧ Sr5 H s (m + 10000) ∧ 0 < n ∧ n ≤ 10 ^ 40 ∧ d ≤ 1000 ∧ H g = some (.lst (ts.map V.int)) ∧ g ≠ s ∧ ts ≠ [] ∧ ts.length ≤ 100 ∧ (∀ t ∈ ts, 0 ≤ t ∧ t < n) ∧
  ∀ (p : Int) (cs : List Int) (q l : Addr) H2, 0 ≤ p → p < n → SumAt n ts p d cs → XB s H H2 → Sr5 H2 s m → H2 q = some (.tup [.int p, .ref l]) → H2 l = some (.lst (cs.map V.int)) → H l = none → Q (.ref q) H2
theorem ok_law_made (T : TX K mg) : FnOk P w K mg base CX0 3 T.f_law_made T.fd_law_made ["_law_source_here", "_law_ring", "_law_goals", "_law_depth"] sp_law_made := by
  refine T.F_law_made.ok sc_law_made (fun vs H Q E h => ?_) (fun cdv A outer s H vs Q E hr h => ?_)
  · obtain ⟨s, g, n, d, m, ts, rfl, _⟩ := h
    rfl
  · obtain ⟨s, g, n, d, m, ts, rfl, hs, n0, n40, d1, hg, ngs, ne, l100, inr, kk⟩ := h
    refine ⟨_, (pss_cons (ps_set (i := 4) sc_law_made.nd rfl (Or.inl rfl) (pe_call (ok_law_gcd T) (hr.mono (by decide)) rfl T.m_law_gcd T.F_law_gcd.kp T.b_law_gcd .nil pass0 (pa_cons (pe_op op_shlW pe_int (pv 3)) (pa_cons (pv 1) pa_nil)))) (pss_cons (ps_set (i := 5) sc_law_made.nd rfl (Or.inl rfl) (pe_op op_rep (pe_lst (pa_cons pe_int pa_nil)) (pe_callB call_len_seq (by rfl) T.z_len (by decide +kernel) (pa_cons (pv 2) pa_nil)))) (pss_cons (ps_asg (pe_op op_shlW pe_int (pv 3)) (pg_sub (pv 5) pe_int set_list)) (pss_cons (ps_for PassesOwn.never rfl (pi_range1 rfl T.z_range (pa_cons pe_int pa_nil)) (pg_name (i := 6) sc_law_made.nd rfl (Or.inl rfl)) (pss_cons (ps_set (i := 7) sc_law_made.nd rfl (Or.inl rfl) (pe_op op_rep (pe_lst (pa_cons pe_int pa_nil)) (pe_callB call_len_seq (by rfl) T.z_len (by decide +kernel) (pa_cons (pv 2) pa_nil)))) (pss_cons (ps_set (i := 8) sc_law_made.nd rfl (Or.inl rfl) (pe_op op_shlW pe_int (pv 3))) (pss_cons (ps_for PassesOwn.never rfl (pi_list (pe_slice sl_list (pe_call (ok_law_shuffled T) hr rfl T.m_law_shuffled T.F_law_shuffled.kp T.b_law_shuffled .nil pass0 (pa_cons (pv 0) (pa_cons (pe_listRg rfl (by rfl) T.z_list (prg_1 (by rfl) T.z_range (pe_callB call_len_seq (by rfl) T.z_len (by decide +kernel) (pa_cons (pv 2) pa_nil)))) pa_nil))) (po_some pe_int) po_none)) (pg_name (i := 9) sc_law_made.nd rfl (Or.inl rfl)) (pss_cons (ps_asg (pe_ix ix_list (pe_lst (pa_cons pe_int (pa_cons (pe_call (ok_law_large T) hr rfl T.m_law_large T.F_law_large.kp T.b_law_large .nil pass0 (pa_cons (pv 0) (pa_cons (pe_op op_add (pv 8) pe_int) pa_nil))) (pa_cons (pe_callB (call_min2 rfl) (by rfl) T.z_min (by decide +kernel) (pa_cons (pv 8) (pa_cons (pe_call (ok_law_take T) (hr.mono (by decide)) rfl T.m_law_take T.F_law_take.kp T.b_law_take .nil pass0 (pa_cons (pv 0) (pa_cons pe_int pa_nil))) pa_nil))) pa_nil)))) (pe_call (ok_law_take T) (hr.mono (by decide)) rfl T.m_law_take T.F_law_take.kp T.b_law_take .nil pass0 (pa_cons (pv 0) (pa_cons pe_int pa_nil))) (fun _ _ => rfl)) (pg_sub (pv 7) (pv 9) set_list)) (pss_one (ps_set (i := 8) sc_law_made.nd rfl (Or.inl rfl) (pe_op op_sub (pv 8) (pe_ix ix_list (pv 7) (pv 9) (fun _ _ => rfl))))))) (pss_cons (ps_asg (pv 8) (pg_sub (pv 7) (pe_bm PySem.F.plainAttrs_list PySem.F.slot_list_index PySem.F.type_list_index mt_index (pv 7) (pa_cons pe_int pa_nil)) set_list)) (pss_one (ps_if (pt_cmpR op_eq (pe_op op_mod (pe_callB (cr_sum rfl) (by rfl) T.z_sum (by decide +kernel) (pa_cons (pe_lc (own := [("_law_amount", 13), ("_law_goal", 14)]) (g := (gTup K 2 (gCons (gName 13) (gCons (gName 14) gNil)))) rfl sc_law_made.nd (CZ.pi_z2 (fl := [false, false]) rfl (by rfl) T.z_zip (pa_cons (pv 7) (pa_cons (pv 2) pa_nil))) (blkOk_by (N := N_law_made) (sc := defScope s_law_made) (by decide +kernel)) (fun _ _ _ _ _ => (pg_tup rfl (pgs_cons (pg_name (i := 13) sc_law_made.nd rfl (Or.inl rfl)) (pgs_cons (pg_name (i := 14) sc_law_made.nd rfl (Or.inl rfl)) pgs_nil)))) (fun _ _ _ _ _ => pts_nil) (fun _ _ _ _ _ => (pe_op op_mulI (pv 13) (pv 14)))) pa_nil)) (pv 4)) pe_int (nomark _)) (pss_one (ps_set (i := 5) sc_law_made.nd rfl (Or.inl rfl) (pv 7))) pss_nil))))))) (pss_cons (ps_set (i := 10) sc_law_made.nd rfl (Or.inl rfl) (pe_callB (cr_sum rfl) (by rfl) T.z_sum (by decide +kernel) (pa_cons (pe_lc (own := [("_law_amount", 13), ("_law_goal", 14)]) (g := (gTup K 2 (gCons (gName 13) (gCons (gName 14) gNil)))) rfl sc_law_made.nd (CZ.pi_z2 (fl := [false, false]) rfl (by rfl) T.z_zip (pa_cons (pv 5) (pa_cons (pv 2) pa_nil))) (blkOk_by (N := N_law_made) (sc := defScope s_law_made) (by decide +kernel)) (fun _ _ _ _ _ => (pg_tup rfl (pgs_cons (pg_name (i := 13) sc_law_made.nd rfl (Or.inl rfl)) (pgs_cons (pg_name (i := 14) sc_law_made.nd rfl (Or.inl rfl)) pgs_nil)))) (fun _ _ _ _ _ => pts_nil) (fun _ _ _ _ _ => (pe_op op_mulI (pv 13) (pv 14)))) pa_nil))) (pss_cons (ps_set (i := 11) sc_law_made.nd rfl (Or.inl rfl) (pe_op op_fdivW (pv 1) (pv 4))) (pss_cons (ps_set (i := 12) sc_law_made.nd rfl (Or.inl rfl) (pe_op op_mod (pe_op op_mulI (pe_op op_fdivW (pv 10) (pv 4)) (pe_call (ok_law_inverse T) (hr.mono (by decide)) rfl T.m_law_inverse T.F_law_inverse.kp T.b_law_inverse .nil pass0 (pa_cons (pe_op op_fdivW (pe_op op_shlW pe_int (pv 3)) (pv 4)) (pa_cons (pv 11) pa_nil)))) (pv 11))) (pss_one (ps_ret (pe_tup (pa_cons (pe_op op_mod (pe_op op_add (pv 12) (pe_op op_mulI (pv 11) (pe_call (ok_law_take T) (hr.mono (by decide)) rfl T.m_law_take T.F_law_take.kp T.b_law_take .nil pass0 (pa_cons (pv 0) (pa_cons (pv 4) pa_nil))))) (pv 1)) (pa_cons (pv 5) pa_nil)))))))))))), ?_⟩
    have tp : 0 < ts.length := List.length_pos_iff.mpr ne
    refine ⟨_, rfl, _, _, rfl, rfl, shl_ok (n := 1) (by decide) (by omega), _, rfl, ?_⟩
    have ed : (1 : Int) * 2 ^ (d : Int).toNat = 2 ^ d := by rw [Int.one_mul, Int.toNat_natCast]
    dsimp only [tNil]
    rw [ed]
    have pd := Int.pow_pos (n := (2 : Int)) (m := d) (by decide)
    have G0 : 0 < gcdI (2 ^ d) n := by
      have : 0 < Int.gcd (2 ^ d) n := Int.gcd_pos_iff.mpr (.inr (by omega))
      show (0 : Int) < ((Int.gcd (2 ^ d) n : Nat) : Int)
      omega
    have Gd : gcdI (2 ^ d) n ∣ 2 ^ d := Int.gcd_dvd_left _ _
    have Gn : gcdI (2 ^ d) n ∣ n := Int.gcd_dvd_right _ _
    have Gle : gcdI (2 ^ d) n ≤ n := Int.le_of_dvd n0 Gn
    refine ⟨_, _, rfl, Int.le_of_lt pd, Int.le_of_lt n0, ?_⟩
    dsimp only [gName]
    have made : ∀ {T r k : Int}, T % gcdI (2 ^ d) n = 0 → (2 : Int) ^ d / gcdI (2 ^ d) n * r % (n / gcdI (2 ^ d) n) = 1 % (n / gcdI (2 ^ d) n) → n ∣ T - 2 ^ d * ((T / gcdI (2 ^ d) n * r % (n / gcdI (2 ^ d) n) + n / gcdI (2 ^ d) n * k) % n) := fun h1 h2 => made_dvd n0 pd h1 h2
    have co : Int.gcd (2 ^ d / gcdI (2 ^ d) n) (n / gcdI (2 ^ d) n) = 1 := made_co n0
    have part0 : 1 ≤ n / gcdI (2 ^ d) n := Int.le_ediv_of_mul_le G0 (by omega)
    have part1 : n / gcdI (2 ^ d) n ≤ n := Int.ediv_le_self _ (Int.le_of_lt n0)
    generalize gcdI (2 ^ d) n = G at *
    have ed0 : ∀ e : Nat, e ≤ 1000 → (2 : Int) ^ e ≤ 2 ^ 1000 := fun e he => pow2_le he
    refine ⟨slen rfl, ?_⟩
    (intro z0 nz0; generalize hGz0 : upd _ z0 _ = H1; have eH1 := exG hGz0 nz0; have hz0 := atG hGz0; clear hGz0)
    have tl62 : ((List.map V.int ts).length : Int) ≤ 100 := by rw [List.length_map]; omega
    refine ⟨_, rfl, g, _, rfl, .inl (SqL.of (eH1 _ _ hg)), z0, _, _, rfl, rfl, hz0, by omega, by omega, by rw [Int.toNat_natCast]; exact Nat.le_trans (show _ ≤ 100 by simp only [List.length_cons, List.length_nil]; omega) (by decide), fun am ham => ?_⟩
    rw [Int.toNat_natCast, List.length_map, rep_zero]
    generalize hG : upd H1 am _ = H2
    have e2 := exG hG ham
    have ha2 := atG hG
    clear hG
    dsimp only [gName]
    have E2 := ext eH1 e2
    have nam0 : H am = none := Evl.fresh_back eH1 ham
    have nas : am ≠ s := hs.ne nam0
    refine ⟨_, rfl, _, _, rfl, rfl, shl_ok (n := 1) (by decide) (by omega), ?_⟩
    dsimp only
    rw [ed]
    refine ⟨_, rfl, am, _, _, 0, rfl, rfl, ha2, by rw [List.length_map, List.length_replicate]; simp [ixN]; omega, ?_⟩
    rw [set_map]
    have at0 := amt_first (ts := ts) ne Gd
    generalize hcs : (List.replicate ts.length (0 : Int)).set 0 (2 ^ d) = cs0 at at0
    clear hcs
    generalize hG : upd H2 am _ = H3
    have ha3 : H3 am = some (.lst (cs0.map V.int)) := by rw [← hG]; exact upd_same
    have xb3 : XB s H H3 := by
      rw [← hG]
      exact XB.app5 (XB.of E2) nam0
    have sr3 : Sr5 H3 s (m + 10000) := by
      rw [← hG]
      exact (hs.mono E2).app nas
    clear hG
    refine ⟨8, rfl, by decide, by decide, ?_⟩
    refine for_it walk_range (fun i σ Hx => (∃ am cs y6 y7 y8 y9 y10 y11 y12 y13 y14, σ = [some (.ref s), some (.int n), some (.ref g), some (.int d), some (.int G), some (.ref am), y6, y7, y8, y9, y10, y11, y12, y13, y14] ∧ H am = none ∧ Hx am = some (.lst (cs.map V.int)) ∧ AmtAt G ts d cs) ∧ XB s H Hx ∧ Sr5 Hx s (m + 1000 + 1000 * (8 - i))) ⟨⟨_, cs0, _, _, _, _, _, _, _, _, _, rfl, nam0, ha3, at0⟩, xb3, sr3.less (by omega)⟩ (fun _ _ _ _ _ => True.intro) ?_ ?_
    · rintro i x σ _ Ha hi ⟨⟨am, cs, y6, y7, y8, y9, y10, y11, y12, y13, y14, rfl, nam, ham, amt⟩, xba, sra⟩ ⟨rfl, rfl⟩
      have hi8 : i < 8 := hi
      dsimp only [gName]
      have hga := xba _ _ ngs hg
      refine ⟨slen rfl, ?_⟩
      (intro z1 nz1; generalize hGz1 : upd _ z1 _ = Hb; have eHb := exG hGz1 nz1; have hz1 := atG hGz1; clear hGz1)
      refine ⟨_, rfl, g, _, rfl, .inl (SqL.of (eHb _ _ hga)), z1, _, _, rfl, rfl, hz1, by omega, by omega, by rw [Int.toNat_natCast]; exact Nat.le_trans (show _ ≤ 100 by simp only [List.length_cons, List.length_nil]; omega) (by decide), fun dr hdr => ?_⟩
      rw [Int.toNat_natCast, List.length_map, rep_zero]
      generalize hG : upd Hb dr _ = Hc
      have ec := exG hG hdr
      have hdc := atG hG
      clear hG
      dsimp only [gName]
      have Eac := ext eHb ec
      refine ⟨_, rfl, _, _, rfl, rfl, shl_ok (n := 1) (by decide) (by omega), ?_⟩
      dsimp only [gName]
      rw [ed]
      show tSeq _ _ _ [_, _, _, _, _, _, _, _, _, _, _, _, _, _, _] _
      have src := sra.mono Eac
      have nds : dr ≠ s := (sra.mono eHb).ne hdr
      have xac : XB s H Hc := xba.trans (XB.of Eac)
      have ndr : H dr = none := (xba.trans (XB.of eHb)).back nds hdr
      have nas2 : am ≠ s := hs.ne nam
      have nad : am ≠ dr := ne_of_none (eHb _ _ ham) hdr
      refine ⟨_, rfl, _, rfl, g, _, rfl, .inl (SqL.of (Eac _ _ hga)), _, rfl, RgOk.of_le (by decide) (by omega) (by decide) (by omega), fun rl hrl => ?_⟩
      rw [List.length_map, rgV_idx]
      generalize hG : upd Hc rl _ = Hd
      have ed1 := exG hG hrl
      have hrd := atG hG
      clear hG
      have lidx : (idxL ts.length).length = ts.length := by simp [idxL]
      refine ⟨s, rl, idxL ts.length, m + 1000 + 1000 * (8 - (i + 1)) + 600, rfl, (src.mono ed1).less (by rw [lidx]; omega), hrd, src.ne hrl, by rw [lidx]; omega, fun yl ys He nyl hyl pm xbe sre => ?_⟩
      refine ⟨1, rfl, ?_⟩
      unfold tNoPart
      refine ⟨yl, _, rfl, SqL.of hyl, fun tl htl => ?_⟩
      rw [cut_tail]
      generalize hG : upd He tl _ = Hf
      have ef := exG hG htl
      have htf := atG hG
      clear hG
      have xcf : XB s Hc Hf := (XB.of ed1).trans (xbe.trans (XB.of ef))
      have xf := xac.trans xcf
      have hdf := xcf _ _ nds hdc
      have haf := xcf _ _ nas2 (Eac _ _ ham)
      have srf := sre.mono ef
      have nts : tl ≠ s := sre.ne htl
      have ntd : tl ≠ dr := by
        have h1 : He dr = some (.lst ((List.replicate ts.length (0 : Int)).map V.int)) := xbe _ _ nds (ed1 _ _ hdc)
        exact (ne_of_none h1 htl).symm
      have ynd : ys.Nodup := pm.nodup_iff.mpr (idx_nodup _)
      have ymem : ∀ y ∈ ys, ∃ a : Nat, a < ts.length ∧ y = a := fun y hy => idx_mem.mp (pm.mem_iff.mp hy)
      have ylen : ys.length = ts.length := by rw [pm.length_eq, lidx]
      obtain ⟨y0, yt, rfl⟩ : ∃ y0 yt, ys = y0 :: yt := by
        cases ys with
        | nil => rw [← ylen] at tp; exact absurd tp (by simp)
        | cons a b => exact ⟨a, b, rfl⟩
      rw [List.nodup_cons] at ynd
      have ytl : yt.length < 100 := by
        rw [List.length_cons] at ylen
        omega
      refine ⟨tl, rfl, ⟨_, SqL.of htf⟩, ?_⟩
      refine for_it (walk_list (xs := yt.map V.int)) (fun j σ Hx => (∃ rest ds z9 z10 z11 z12 z13 z14, σ = [some (.ref s), some (.int n), some (.ref g), some (.int d), some (.int G), some (.ref am), some (.int (0 + (i : Int))), some (.ref dr), some (.int rest), z9, z10, z11, z12, z13, z14] ∧ Hx dr = some (.lst (ds.map V.int)) ∧ DrawAt ts.length (2 ^ d) yt j y0 rest ds) ∧ Hx tl = some (.lst (yt.map V.int)) ∧ Hx am = some (.lst (cs.map V.int)) ∧ XB s H Hx ∧ Sr5 Hx s (m + 1000 + 1000 * (8 - (i + 1)) + 6 * (100 - j)))
        ⟨⟨2 ^ d, _, _, _, _, _, _, _, rfl, hdf, ⟨by simp, fun x hx => by rw [(List.mem_replicate.mp hx).2]; exact Int.le_refl _, Int.le_of_lt pd, by rw [rep_sum]; omega, fun k _ => by rw [List.getD_eq_getElem?_getD, List.getElem?_replicate]; split <;> rfl⟩⟩, htf, haf, xf, srf.less (by omega)⟩ (fun j σ Hx _ ⟨_, q, _⟩ => SqL.of q) ?_ ?_
      · rintro j x σ _ Hx hj ⟨⟨rest, ds, z9, z10, z11, z12, z13, z14, rfl, hdx, dat⟩, htx, hax, xbx, srx⟩ ⟨rfl, hx⟩
        obtain ⟨a0, ha0, rfl⟩ := map_get hx
        have hj2 : j < 100 := by
          have := (List.getElem?_eq_some_iff.mp ha0).1
          omega
        obtain ⟨a, ha, rfl⟩ := ymem a0 (List.mem_cons_of_mem _ (List.mem_of_getElem? ha0))
        dsimp only [gName]
        have r0 := dat.rest0
        refine ⟨_, rfl, _, rfl, _, _, rfl, rfl, s, rest + 1, m + 1000 + 1000 * (8 - (i + 1)) + 6 * (100 - (j + 1)) + 2, rfl, srx.less (by omega), by omega, fun r1 Hy r10 r11 xby sry => ?_⟩
        refine ⟨_, rfl, _, rfl, s, 3, m + 1000 + 1000 * (8 - (i + 1)) + 6 * (100 - (j + 1)) + 1, rfl, sry, by decide, by decide +kernel, fun r2 Hz r20 r21 xbz srz => ?_⟩
        refine ⟨_, _, rfl, slen rfl, fun lt hlt => ?_⟩
        generalize hG : upd Hz lt _ = Hw
        have ew := exG hG hlt
        have hltw := atG hG
        clear hG
        have nls := srz.ne hlt
        refine ⟨_, rfl, s, 3, m + 1000 + 1000 * (8 - (i + 1)) + 6 * (100 - (j + 1)), rfl, srz.mono ew, by decide, by decide +kernel, fun r3 Hv r30 r31 xbv srv => ?_⟩
        obtain ⟨v, mv, gv⟩ := at_ex (xs := [0, r1, if r2 < rest then r2 else rest]) r30 r31
        have vv : 0 ≤ v ∧ v ≤ rest := by
          simp only [List.mem_cons, List.not_mem_nil, or_false] at mv
          rcases mv with rfl | rfl | rfl
          · omega
          · omega
          · split <;> omega
        refine ⟨lt, _, _, _, rfl, rfl, SqL.of (xbv _ _ nls hltw), gv, ?_⟩
        have xv : XB s Hx Hv := xby.trans (xbz.trans ((XB.of ew).trans xbv))
        have hdv := xv _ _ nds hdx
        refine ⟨_, rfl, _, rfl, dr, _, _, a, rfl, rfl, hdv, by rw [List.length_map, dat.len]; exact Evl.ixN_nat ha, ?_⟩
        rw [set_map]
        have dn := dat.next ha0 ynd.2 ha vv.1 vv.2
        have lds : a < ds.length := by rw [dat.len]; exact ha
        refine ⟨_, rfl, _, rfl, _, rfl, dr, _, _, _, rfl, rfl, SqL.of upd_same, atI_cast (map_at V.int (List.getElem?_set_self lds)), _, _, rfl, rfl, ?_⟩
        refine ⟨⟨rest - v, _, _, _, _, _, _, _, rfl, upd_same, dn⟩, by rw [upd_ne ntd]; exact xv _ _ nts htx, by rw [upd_ne nad]; exact xv _ _ nas2 hax, XB.app5 (xbx.trans xv) ndr, srv.app nds⟩
      · rintro σ Hx ⟨⟨rest, ds, z9, z10, z11, z12, z13, z14, rfl, hdx, dat⟩, htx, hax, xbx, srx⟩
        dsimp only [gName]
        have dat : DrawAt ts.length (2 ^ d) yt yt.length y0 rest ds := by
          have := dat
          rwa [List.length_map] at this
        have z0 : (0 : Int) ∈ ds := by
          obtain ⟨b, hb, rfl⟩ := ymem y0 List.mem_cons_self
          have q := dat.zero b (by rw [List.take_of_length_le (Nat.le_refl _)]; exact ynd.1)
          have lb : b < ds.length := by rw [dat.len]; exact hb
          rw [List.getD_eq_getElem?_getD, List.getElem?_eq_getElem lb] at q
          exact List.mem_of_getElem? ((List.getElem?_eq_getElem lb).trans (congrArg some q))
        obtain ⟨k, hk, hno⟩ := first_zero z0
        have lk : k < ds.length := (List.getElem?_eq_some_iff.mp hk).1
        refine ⟨_, rfl, _, rfl, _, rfl, .inl ⟨rfl, _, SqL.of hdx⟩, dr, _, .int 0, k, .int 0, rfl, rfl, SqL.of hdx, rfl, flat_ints _, map_at V.int hk, by decide, fun e z he hz => ?_, ?_⟩
        · obtain ⟨z', hz', rfl⟩ := map_get hz
          have := hno e z' he hz'
          exact decide_eq_false (by intro q; cases q; exact this rfl)
        refine ⟨dr, _, _, k, rfl, rfl, hdx, by rw [List.length_map]; exact Evl.ixN_nat lk, ?_⟩
        rw [set_map]
        have ek : ds.getD k 0 = 0 := by rw [List.getD_eq_getElem?_getD, hk]; rfl
        have l2 : (ds.set k rest).length = ts.length := by rw [List.length_set]; exact dat.len
        have p2 : ∀ x ∈ ds.set k rest, 0 ≤ x := fun x hx => by
          rcases mem_set_of hx with rfl | hx
          · exact dat.rest0
          · exact dat.pos x hx
        have s2 : (ds.set k rest).sum = 2 ^ d := by
          rw [sum_set lk, ek]
          have := dat.sum
          omega
        generalize ds.set k rest = es at l2 p2 s2
        generalize hG : upd Hx dr _ = Hy
        have hdy : Hy dr = some (.lst (es.map V.int)) := by rw [← hG]; exact upd_same
        have xby : XB s H Hy := by
          rw [← hG]
          exact XB.app5 xbx ndr
        have sry : Sr5 Hy s (m + 1000 + 1000 * (8 - (i + 1))) := by
          rw [← hG]
          exact (srx.app nds).less (by omega)
        have hay : Hy am = some (.lst (cs.map V.int)) := by rw [← hG, upd_ne nad]; exact hax
        clear hG
        have eB : ∀ x ∈ es, x.natAbs < 2 ^ 5000 := fun x hx => by
          have h0 := p2 x hx
          have h1 := le_sum p2 x hx
          rw [s2] at h1
          have h2 : x ≤ 2 ^ 1000 := Int.le_trans h1 (pow2_le (by omega))
          have h4 : x.natAbs ≤ 2 ^ 1000 := by
            have : ((2 ^ 1000 : Nat) : Int) = (2 : Int) ^ 1000 := by simp
            omega
          exact Nat.lt_of_le_of_lt h4 (Nat.pow_lt_pow_right (by decide) (by decide))
        have tB : ∀ x ∈ ts, x.natAbs < 2 ^ 5000 := fun x hx => Nat.lt_of_lt_of_le (abs45 (inr x hx).1 (Int.le_trans (Int.le_of_lt (inr x hx).2) (Int.le_trans n40 (by decide)))) (Nat.pow_le_pow_right (by decide) (by decide))
        have hgy := xby _ _ ngs hg
        refine ⟨_, rfl, _, rfl, [dr, g], rfl, rfl, all2 (sqL hdy) (sqL hgy), fun D hD => ?_⟩
        refine lc_vals (CZ.walk_rows (xss := [es.map V.int, ts.map V.int]) (n := ts.length) (lens2 (by rw [List.length_map, l2]) (by rw [List.length_map]))) ((List.zipWith (fun w x => w * x) es ts).map V.int) (by rw [List.length_map, List.length_zipWith, l2, Nat.min_self]) (by omega) hD (fun H3 e => .cons (sqL (e _ _ hdy)) (.cons (sqL (e _ _ hgy)) .nil)) ?_ (gmono_tup (gmono_cons gmono_name (gmono_cons gmono_name gmono_nil))) ?_
        · intro j y H6 H7 R hj e yy kk2
          obtain ⟨Tb, p, dd, rfl, hTb, rfl, hp, hdd⟩ := yints2 yy
          refine ⟨Tb, _, rfl, SqT.of upd_same, rfl, _, _, rfl, _, _, rfl, rfl, ?_⟩
          refine ⟨rfl, _, rfl, _, rfl, _, _, rfl, rfl, (wide_mul (eB p (List.mem_of_getElem? hp)) (tB dd (List.mem_of_getElem? hdd)) (by decide) (by decide) (by decide)).ok, ?_⟩
          refine kk2 _ _ (exn hTb) ?_
          rw [List.getElem?_map, List.getElem?_zipWith, hp, hdd]
          rfl
        intro Hz ez hDz
        have xbz := xby.trans (XB.of ez)
        have srz := sry.mono ez
        refine ⟨D, _, rfl, SqL.of hDz, _, rfl, _, _, rfl, rfl, G0, rfl, _, rfl, ?_⟩
        refine ite2 (fun hq => ?_) (fun _ => ?_)
        · have hq : wsum es ts % G = 0 := by
            have := of_decide_eq_true hq
            injection this
          exact ⟨_, rfl, ⟨dr, es, _, _, _, _, _, _, _, _, _, rfl, ndr, ez _ _ hdy, ⟨l2, p2, s2, hq⟩⟩, xbz, srz⟩
        · exact ⟨⟨am, cs, _, _, _, _, _, _, _, _, _, rfl, nam, ez _ _ hay, amt⟩, xbz, srz⟩
    · rintro σ Ha ⟨⟨am, cs, y6, y7, y8, y9, y10, y11, y12, y13, y14, rfl, nam, ham, amt⟩, xba, sra⟩
      dsimp only [gName]
      have hga := xba _ _ ngs hg
      have cB : ∀ x ∈ cs, x.natAbs < 2 ^ 5000 := fun x hx => by
        have h0 := amt.pos x hx
        have h1 := le_sum amt.pos x hx
        rw [amt.sum] at h1
        have h2 : x ≤ 2 ^ 1000 := Int.le_trans h1 (pow2_le (by omega))
        have h4 : x.natAbs ≤ 2 ^ 1000 := by
          have : ((2 ^ 1000 : Nat) : Int) = (2 : Int) ^ 1000 := by simp
          omega
        exact Nat.lt_of_le_of_lt h4 (Nat.pow_lt_pow_right (by decide) (by decide))
      have tB : ∀ x ∈ ts, x.natAbs < 2 ^ 5000 := fun x hx => Nat.lt_of_lt_of_le (abs45 (inr x hx).1 (Int.le_trans (Int.le_of_lt (inr x hx).2) (Int.le_trans n40 (by decide)))) (Nat.pow_le_pow_right (by decide) (by decide))
      refine ⟨_, rfl, _, rfl, [am, g], rfl, rfl, all2 (sqL ham) (sqL hga), fun D hD => ?_⟩
      refine lc_vals (CZ.walk_rows (xss := [cs.map V.int, ts.map V.int]) (n := ts.length) (lens2 (by rw [List.length_map, amt.len]) (by rw [List.length_map]))) ((List.zipWith (fun w x => w * x) cs ts).map V.int) (by rw [List.length_map, List.length_zipWith, amt.len, Nat.min_self]) (by omega) hD (fun H3 e => .cons (sqL (e _ _ ham)) (.cons (sqL (e _ _ hga)) .nil)) ?_ (gmono_tup (gmono_cons gmono_name (gmono_cons gmono_name gmono_nil))) ?_
      · intro j y H6 H7 R hj e yy kk2
        obtain ⟨Tb, p, dd, rfl, hTb, rfl, hp, hdd⟩ := yints2 yy
        refine ⟨Tb, _, rfl, SqT.of upd_same, rfl, _, _, rfl, _, _, rfl, rfl, ?_⟩
        refine ⟨rfl, _, rfl, _, rfl, _, _, rfl, rfl, (wide_mul (cB p (List.mem_of_getElem? hp)) (tB dd (List.mem_of_getElem? hdd)) (by decide) (by decide) (by decide)).ok, ?_⟩
        refine kk2 _ _ (exn hTb) ?_
        rw [List.getElem?_map, List.getElem?_zipWith, hp, hdd]
        rfl
      intro Hz ez hDz
      have xbz := xba.trans (XB.of ez)
      have srz := sra.mono ez
      refine ⟨D, _, rfl, SqL.of hDz, ?_⟩
      dsimp only [gName]
      have ew : (List.zipWith (fun w x => w * x) cs ts).sum = wsum cs ts := rfl
      rw [ew]
      have gB : G.natAbs < 2 ^ 150 := abs45 (Int.le_of_lt G0) (Int.le_trans Gle (Int.le_trans n40 (by decide)))
      have pB : (n / G).natAbs < 2 ^ 150 := abs45 (by omega) (Int.le_trans part1 (Int.le_trans n40 (by decide)))
      refine ⟨_, rfl, _, rfl, _, _, rfl, rfl, wide_div G0 gB (by decide) (by decide), ?_⟩
      dsimp only [gName]
      refine ⟨_, rfl, _, rfl, _, _, rfl, rfl, wide_div G0 gB (by decide) (by decide), _, rfl, _, _, rfl, rfl, shl_ok (n := 1) (by decide) (by omega), _, rfl, _, _, rfl, rfl, wide_div G0 gB (by decide) (by decide), _, rfl, ?_⟩
      dsimp only
      rw [ed]
      refine ⟨_, n / G, rfl, part0, Int.le_trans part1 (Int.le_trans n40 (by decide)), co, fun r Hw r0 r1 hr ewv => ?_⟩
      have wB : (wsum cs ts / G).natAbs < 2 ^ 5000 := by
        obtain ⟨w0, w1⟩ := wsum_bound (n := n) amt.len amt.pos inr
        rw [amt.sum] at w1
        have w2 : wsum cs ts / G ≤ wsum cs ts := Int.ediv_le_self _ w0
        have w3 : 0 ≤ wsum cs ts / G := Int.ediv_nonneg w0 (Int.le_of_lt G0)
        have w4 : (2 : Int) ^ d * n ≤ 2 ^ 1000 * n := Int.mul_le_mul_of_nonneg_right (pow2_le d1) (Int.le_of_lt n0)
        have w5 : (2 : Int) ^ 1000 * n ≤ 2 ^ 1000 * 10 ^ 40 := Int.mul_le_mul_of_nonneg_left n40 (Int.le_of_lt (Int.pow_pos (by decide)))
        have w6 : (2 : Int) ^ 1000 * 10 ^ 40 < 2 ^ 1200 := by decide +kernel
        have w7 : wsum cs ts / G < 2 ^ 1200 := by omega
        have w8 : (wsum cs ts / G).natAbs < 2 ^ 1200 := by
          have : ((2 ^ 1200 : Nat) : Int) = (2 : Int) ^ 1200 := by simp
          omega
        exact Nat.lt_of_lt_of_le w8 (Nat.pow_le_pow_right (by decide) (by decide))
      have rB : r.natAbs < 2 ^ 150 := Nat.lt_of_le_of_lt (show r.natAbs ≤ (n / G).natAbs by omega) pB
      refine ⟨_, _, rfl, rfl, (wide_mul wB rB (by decide) (by decide) (by decide)).ok, _, rfl, _, _, rfl, rfl, (by show 0 < n / G; omega), ?_⟩
      dsimp only [gName]
      have xbw := xbz.trans (XB.of ewv)
      refine ⟨_, rfl, _, rfl, _, rfl, _, rfl, s, G, m, rfl, (srz.mono ewv).less (by omega), G0, Nat.lt_of_lt_of_le gB (Nat.pow_le_pow_right (by decide) (by decide)), fun k Hv k0 k1 xbv srv => ?_⟩
      have kB : k.natAbs < 2 ^ 150 := Nat.lt_of_le_of_lt (show k.natAbs ≤ G.natAbs by omega) gB
      refine ⟨_, _, rfl, rfl, (wide_mul pB kB (by decide) (by decide) (by decide)).ok, _, _, rfl, rfl, _, rfl, _, _, rfl, rfl, n0, ?_⟩
      refine ⟨_, rfl, slen rfl, ?_⟩
      (intro q nq; generalize hGq : upd _ q _ = Hu; have eHu := exG hGq nq; have hq := atG hGq; clear hGq)
      have nas2 : am ≠ s := hs.ne nam
      exact kk _ cs q am Hu (mod_lo n0) (mod_hi n0) ⟨amt.len, amt.pos, amt.sum, made amt.dvd hr⟩ (xbw.trans (xbv.trans (XB.of eHu))) (srv.mono eHu) hq (eHu _ _ (xbv _ _ nas2 (ewv _ _ (ez _ _ ham)))) nam
end

theorem ifs_ex {c : TT} {t u : TS} {D : Ends} {σ : L2.St} {H : Hp} (h : ∀ N : L2.St → Hp → Prop, (∀ H2, Ex H H2 → N σ H2) → tIfS c t u { D with nx := N } σ H) (hR : ∀ H2, Ex H H2 → D.nx σ H2) : tIfS c t u D σ H :=
  ifs_cutG (fun σ2 H2 => σ2 = σ ∧ Ex H H2) (by rintro σ2 H2 ⟨rfl, e⟩; exact hR H2 e) (fun N hN => h N fun H2 e => hN σ H2 ⟨rfl, e⟩)
theorem sif_ex {c : TT} {t u r : TS} {D : Ends} {σ : L2.St} {H : Hp} (h : ∀ N : L2.St → Hp → Prop, (∀ H2, Ex H H2 → N σ H2) → tIfS c t u { D with nx := N } σ H) (hR : ∀ H2, Ex H H2 → r D σ H2) : tSeq (tIfS c t u) r D σ H :=
  ifs_ex (D := { D with nx := r D }) h hR

/-! ### data that repr shows, and how long the text is -/
def Shw (c : Nat) (d : PyData) : Prop := d.showable = true ∧ d.hasDict = false ∧ d.shown.length ≤ c
theorem Shw.up {c e : Nat} {d : PyData} (h : Shw c d) (l : c ≤ e) : Shw e d := ⟨h.1, h.2.1, Nat.le_trans h.2.2 l⟩
theorem shw_int {i : Int} (h : i.natAbs < 10 ^ 12) : Shw 13 (.int i) := by
  refine ⟨?_, rfl, PyData.shown_int_le h⟩
  show decide (i.natAbs.log2 < 1920) = true
  refine decide_eq_true ?_
  have : i.natAbs.log2 < 40 := by
    by_cases z : i.natAbs = 0
    · rw [z]
      decide
    · exact (Nat.log2_lt z).mpr (Nat.lt_of_lt_of_le h (by decide))
  omega
theorem shw_all {c : Nat} : ∀ {ds : List PyData}, (∀ d ∈ ds, Shw c d) → PyData.showableAll ds = true ∧ PyData.hasDictAll ds = false ∧ ((PyData.shownAll ds).map (·.length)).sum ≤ ds.length * c ∧ (PyData.shownAll ds).length = ds.length
  | [], _ => ⟨rfl, rfl, by simp [PyData.shownAll], rfl⟩
  | d :: ds, h => by
    obtain ⟨a, b, e⟩ := h d List.mem_cons_self
    obtain ⟨a2, b2, e2, l2⟩ := shw_all fun x hx => h x (List.mem_cons_of_mem _ hx)
    refine ⟨by simp only [PyData.showableAll, a, a2, Bool.and_true], by simp only [PyData.hasDictAll, b, b2, Bool.or_false], ?_, by simp only [PyData.shownAll, List.length_cons, l2]⟩
    simp only [PyData.shownAll, List.map_cons, List.sum_cons, List.length_cons, Nat.succ_mul]
    omega
theorem shw_tuple {c : Nat} {ds : List PyData} (h : ∀ d ∈ ds, Shw c d) : Shw (ds.length * (c + 2) + 3) (.tuple ds) := by
  obtain ⟨a, b, e, l⟩ := shw_all h
  refine ⟨by simpa only [PyData.showable] using a, by simpa only [PyData.hasDict] using b, ?_⟩
  have := tupleText_len_le (PyData.shownAll ds)
  simp only [PyData.shown, Nat.mul_add] at *
  omega
theorem shw_list {c : Nat} {ds : List PyData} (h : ∀ d ∈ ds, Shw c d) : Shw (ds.length * (c + 2) + 3) (.list ds) := by
  obtain ⟨a, b, e, l⟩ := shw_all h
  refine ⟨by simpa only [PyData.showable] using a, by simpa only [PyData.hasDict] using b, ?_⟩
  have := listText_len_le (PyData.shownAll ds)
  simp only [PyData.shown, Nat.mul_add] at *
  omega
theorem shw_ints {ps : List Int} (h : ∀ x ∈ ps, x.natAbs < 10 ^ 12) : Shw (ps.length * 15 + 3) (iT ps) := by
  have := shw_tuple (c := 13) (ds := ps.map PyData.int) fun d hd => by
    obtain ⟨i, hi, rfl⟩ := List.mem_map.mp hd
    exact shw_int (h i hi)
  rw [List.length_map] at this
  exact this
theorem shw_big {i : Int} (h : i.natAbs.log2 < 1920) : Shw 1921 (.int i) := ⟨decide_eq_true h, rfl, int_text_len_1921 h⟩

theorem SumAt.le {n p : Int} {ts cs : List Int} {d : Nat} (h : SumAt n ts p d cs) : ∀ x ∈ cs, 0 ≤ x ∧ x ≤ 2 ^ d := fun x hx => ⟨h.pos x hx, by rw [← h.sum]; exact le_sum h.pos x hx⟩

/-- a list or tuple of ints as data -/
def gI (b : Bool) (ts : List Int) : PyData := if b = true then .tuple (ts.map .int) else .list (ts.map .int)
theorem gI_dp {K : PySem.W.Frag} {H : Hp} {q : Bool × Addr} {ts : List Int} (h : SqH H q (ts.map V.int)) : Dp K H (.ref q.2) (gI q.1 ts) := by
  obtain ⟨b, a⟩ := q
  cases b with
  | true => exact .tup (SqT.of (show H a = some (.tup (ts.map V.int)) from h)) (dpall_ints ts)
  | false => exact .lst (SqL.of (show H a = some (.lst (ts.map V.int)) from h)) (dpall_ints ts)
theorem gI_shw {b : Bool} {ts : List Int} (h : ∀ x ∈ ts, x.natAbs < 10 ^ 12) (l : ts.length ≤ 1000) : Shw 100000 (gI b ts) ∧ (gI b ts).depth ≤ 60 := by
  have a : ∀ d ∈ ts.map PyData.int, Shw 13 d := fun d hd => by
    obtain ⟨t, ht, rfl⟩ := List.mem_map.mp hd
    exact shw_int (h t ht)
  have e : ∀ d ∈ ts.map PyData.int, Sh 59 d := fun d hd => by
    obtain ⟨t, ht, rfl⟩ := List.mem_map.mp hd
    exact sh_int t
  unfold gI
  cases b with
  | true => exact ⟨(shw_tuple a).up (by rw [List.length_map]; omega), (sh_tuple e).2⟩
  | false => exact ⟨(shw_list a).up (by rw [List.length_map]; omega), (sh_list e).2⟩

section
variable {P : Program} {w : World} {K : PySem.W.Frag} {mg : Str → Option Value} {base : Heap}
theorem kb_call_from_sum_3210 {K : PySem.W.Frag} {mg : Str → Option Value} (T : TX K mg) : KBn K T.fd_call_from_sum ["size", "targets", "place", "counts"] 0 ["counts", "place", "targets", "size"] (fun us ws => pick [3, 2, 1, 0] (us ++ ws)) (fun vs zs => pick [3, 2, 1, 0] (vs ++ zs)) :=
  kbn_of T.F_call_from_sum 0 ["counts", "place", "targets", "size"] [3, 2, 1, 0] fun _ _ _ _ _ _ us ws h1 h2 => match us, ws, h1, h2 with | [], [_, _, _, _], _, _ => rfl
def sp_law_right : Sp := fun vs H Q _ => ∃ (n p : Int) (d : Nat) (g am : Addr) (ts cs : List Int), vs = [.int n, .ref g, .int p, .int (d + 1 : Nat), .ref am] ∧ 0 < n ∧ n ≤ 10 ^ 40 ∧ 0 ≤ p ∧ p < n ∧ d < 1000 ∧ H g = some (.lst (ts.map V.int)) ∧ H am = some (.lst (cs.map V.int)) ∧ ts ≠ [] ∧ ts.length ≤ 100 ∧ (∀ t ∈ ts, 0 ≤ t ∧ t < n) ∧ ts.Nodup ∧ SumAt n ts p (d + 1) cs ∧ ∀ H2, Ex H H2 → Q (.bl true) H2
theorem ok_law_right (T : TX K mg) : CG.FnOkG P w K mg base 6 T.f_law_right T.fd_law_right ["_law_ring", "_law_goals", "_law_spot", "_law_depth", "_law_amounts"] sp_law_right := by
  refine CG.okG T.F_law_right sc_law_right (fun vs H Q E h => ?_) (fun cdv A outer s H vs Q E gd hr h => ?_)
  · obtain ⟨n, p, d, g, am, ts, cs, rfl, _⟩ := h
    rfl
  · obtain ⟨n, p, d, g, am, ts, cs, rfl, n0, n40, p0, p1, d1, hg, ham, ne, l100, inr, nod, sm, kk⟩ := h
    refine ⟨_, (pss_cons (ps_set (i := 5) sc_law_right.nd rfl (Or.inl rfl) (pe_callB (CG.cr_repr gd (u65 hr)) (by rfl) T.z_repr (by decide +kernel) (pa_cons (pe_tup (pa_cons (pv 1) (pa_cons (pv 4) pa_nil))) pa_nil))) (pss_cons (ps_set (i := 6) sc_law_right.nd rfl (Or.inl rfl) (pe_call (ok_call_from_sum T) hr rfl T.m_call_from_sum T.F_call_from_sum.kp T.b_call_from_sum .nil pass0 (pa_cons (pv 0) (pa_cons (pv 1) (pa_cons (pv 2) (pa_cons (pv 4) pa_nil)))))) (pss_cons (ps_if (PW.pt (pw_or (pt_not (pt_val (pe_callB call_isi (by rfl) T.z_isinstance (by decide +kernel) (pa_cons (pv 6) (pa_cons (pe_bltn (v := .ty "tuple") rfl T.z_tuple (by decide +kernel) rfl) pa_nil))))) (pw_or1 (pt_cmpR op_ne (pe_callB call_len_seq (by rfl) T.z_len (by decide +kernel) (pa_cons (pv 6) pa_nil)) pe_int (nomark _))))) (pss_one (ps_ret pe_bl)) pss_nil) (pss_cons (ps_asg (pv 6) (pg_tup rfl (pgs_cons (pg_name (i := 7) sc_law_right.nd rfl (Or.inl rfl)) (pgs_cons (pg_name (i := 8) sc_law_right.nd rfl (Or.inl rfl)) (pgs_cons (pg_name (i := 9) sc_law_right.nd rfl (Or.inl rfl)) pgs_nil))))) (pss_cons (ps_if (PW.pt (pw_or (pt_not (pt_val (pe_callB call_isi (by rfl) T.z_isinstance (by decide +kernel) (pa_cons (pv 7) (pa_cons (pe_bltn (v := .ty "int") rfl T.z_int (by decide +kernel) rfl) pa_nil))))) (pw_or (pt_val (pe_callB call_isi (by rfl) T.z_isinstance (by decide +kernel) (pa_cons (pv 7) (pa_cons (pe_bltn (v := .ty "bool") rfl T.z_bool (by decide +kernel) rfl) pa_nil)))) (pw_or1 (pt_not (pt_chain op_le op_lt pe_int (pv 7) (pv 0))))))) (pss_one (ps_ret pe_bl)) pss_nil) (pss_cons (ps_if (pt_not (pt_val (pe_call (ok_law_is_sum T) (hr.mono (by decide)) rfl T.m_law_is_sum T.F_law_is_sum.kp T.b_law_is_sum .nil pass0 (pa_cons (pv 0) (pa_cons (pv 1) (pa_cons (pe_op op_mod (pe_op op_add (pv 2) (pv 7)) (pv 0)) (pa_cons (pe_op op_sub (pv 3) pe_int) (pa_cons (pv 8) pa_nil)))))))) (pss_one (ps_ret pe_bl)) pss_nil) (pss_cons (ps_if (pt_not (pt_val (pe_call (ok_law_is_sum T) (hr.mono (by decide)) rfl T.m_law_is_sum T.F_law_is_sum.kp T.b_law_is_sum .nil pass0 (pa_cons (pv 0) (pa_cons (pv 1) (pa_cons (pe_op op_mod (pe_op op_sub (pv 2) (pv 7)) (pv 0)) (pa_cons (pe_op op_sub (pv 3) pe_int) (pa_cons (pv 9) pa_nil)))))))) (pss_one (ps_ret pe_bl)) pss_nil) (pss_cons (ps_set (i := 10) sc_law_right.nd rfl (Or.inl rfl) (pe_callB (CG.cr_repr gd (u65 hr)) (by rfl) T.z_repr (by decide +kernel) (pa_cons (pv 6) pa_nil))) (pss_cons (ps_expr (pe_bm0 PySem.F.plainAttrs_list PySem.F.slot_list_clear PySem.F.type_list_clear mt_clear (pv 8))) (pss_cons (ps_expr (pe_bm PySem.F.plainAttrs_list PySem.F.slot_list_append PySem.F.type_list_append mt_append (pv 9) (pa_cons pe_int pa_nil))) (pss_cons (ps_set (i := 11) sc_law_right.nd rfl (Or.inl rfl) (pe_callKw (ok_call_from_sum T) hr rfl T.m_call_from_sum T.F_call_from_sum.kp (kb_call_from_sum_3210 T) pass0 (pk_cons (pv 4) (pk_cons (pv 2) (pk_cons (pe_callTy call_tuple_of (by rfl) T.z_tuple (by decide +kernel) (pa_cons (pv 1) pa_nil)) (pk_cons (pv 0) pk_nil)))))) (pss_one (ps_ret (pe_and (pe_cmpR op_eq (pe_callB (CG.cr_repr gd (u65 hr)) (by rfl) T.z_repr (by decide +kernel) (pa_cons (pv 11) pa_nil)) (pv 10) (nomark _)) (pe_one (pe_cmpR op_eq (pe_callB (CG.cr_repr gd (u65 hr)) (by rfl) T.z_repr (by decide +kernel) (pa_cons (pe_tup (pa_cons (pv 1) (pa_cons (pv 4) pa_nil))) pa_nil)) (pv 5) (nomark _))))))))))))))))), ?_⟩
    have nB : n.natAbs < 2 ^ 150 := abs45 (Int.le_of_lt n0) (Int.le_trans n40 (by decide))
    have nB4 : n.natAbs < 2 ^ 4000 := Nat.lt_of_lt_of_le nB (Nat.pow_le_pow_right (by decide) (by decide))
    have hl := sm.len
    have shI : ∀ i : Int, 0 ≤ i → i ≤ 2 ^ 1100 → Shw 1921 (.int i) := fun i h0 h1 => by
      refine shw_big ?_
      have h2 : i.natAbs ≤ 2 ^ 1100 := by
        have : ((2 ^ 1100 : Nat) : Int) = (2 : Int) ^ 1100 := by simp
        omega
      by_cases z : i.natAbs = 0
      · rw [z]; decide
      · exact (Nat.log2_lt z).mpr (Nat.lt_of_le_of_lt h2 (Nat.pow_lt_pow_right (by decide) (by decide)))
    have n1100 : n ≤ 2 ^ 1100 := Int.le_trans n40 (by decide +kernel)
    have shL : ∀ l : List Int, l.length ≤ 100 → (∀ x ∈ l, 0 ≤ x ∧ x ≤ 2 ^ 1100) → Shw 200000 (gI false l) := fun l hl h => by
      have := shw_list (c := 1921) (ds := l.map PyData.int) fun e he => by
        obtain ⟨t, ht, rfl⟩ := List.mem_map.mp he
        exact shI t (h t ht).1 (h t ht).2
      exact this.up (by rw [List.length_map]; omega)
    have shT : Shw 200000 (gI false ts) := shL ts l100 fun t ht => ⟨(inr t ht).1, Int.le_trans (Int.le_of_lt (inr t ht).2) n1100⟩
    have up : ∀ {e : Nat} {q : Int} {l : List Int}, e ≤ 1000 → l.length ≤ 100 → SumAt n ts q e l → Shw 200000 (gI false l) := fun he hl h => shL _ hl fun x hx => ⟨h.pos x hx, Int.le_trans (h.le x hx).2 (pow2_le (by omega))⟩
    have shC : Shw 200000 (gI false cs) := up (by omega) (by omega) sm
    have sh60 : ∀ l : List Int, Sh 59 (gI false l) := fun l => sh_list (n := 58) fun e he => by
      obtain ⟨t, ht, rfl⟩ := List.mem_map.mp he
      exact sh_int t
    have shA : Shw 1000000 (.tuple [gI false ts, gI false cs]) := (shw_tuple (c := 200000) (ds := [gI false ts, gI false cs]) fun e he => by
      simp only [List.mem_cons, List.not_mem_nil, or_false] at he
      rcases he with rfl | rfl
      · exact shT
      · exact shC).up (by simp)
    have shA60 : Sh 60 (.tuple [gI false ts, gI false cs]) := sh_tuple (n := 59) fun e he => by
      simp only [List.mem_cons, List.not_mem_nil, or_false] at he
      rcases he with rfl | rfl <;> exact sh60 _
    have dpA : ∀ {H2 : Hp} {tp : Addr}, H2 tp = some (.tup [.ref g, .ref am]) → H2 g = some (.lst (ts.map V.int)) → H2 am = some (.lst (cs.map V.int)) → Dp K H2 (.ref tp) (.tuple [gI false ts, gI false cs]) := fun h1 h2 h3 => .tup (SqT.of h1) (.cons (gI_dp (q := (false, g)) h2) (.cons (gI_dp (q := (false, am)) h3) .nil))
    refine ⟨_, rfl, _, rfl, slen rfl, ?_⟩
    (intro tp ntp; generalize hGtp : upd _ tp _ = H1; have eH1 := exG hGtp ntp; have htp := atG hGtp; clear hGtp)
    refine ⟨tp, _, rfl, dpA htp (eH1 _ _ hg) (eH1 _ _ ham), shA.1, shA.2.1, Nat.le_trans shA.2.2 (by decide), shA60.2, ?_⟩
    dsimp only [gName]
    show tSeq _ _ _ [_, _, _, _, _, _, _, _, _, _, _, _] _
    refine ⟨_, rfl, _, rfl, _, rfl, _, rfl, n, p, d, (false, g), am, ts, cs, rfl, by omega, p0, p1, nB4, d1, eH1 _ _ hg, eH1 _ _ ham, ne, l100, inr, nod, sm, fun r l1 l2 H2 e2 hr h1 h2 f1 f2 f3 n12 => ?_⟩
    obtain ⟨v0, v1, sf, sb⟩ := sm.call n0
    have E2 := ext eH1 e2
    have nl1 := Evl.fresh_back eH1 f1
    have nl2 := Evl.fresh_back eH1 f2
    have lf := sf.len
    have lb := sb.len
    have shF := up (by omega) (by omega) sf
    have shB := up (by omega) (by omega) sb
    generalize ev : callV n p ts cs d = v at hr v0 v1 sf sb
    generalize ef : (blkE ts cs d).2.1 = fs at h1 sf lf shF
    generalize eb : bwdL ts cs d = bs at h2 sb lb shB
    dsimp only [gName]
    show tSeq _ _ _ [_, _, _, _, _, _, _, _, _, _, _, _] _
    refine ⟨_, rfl, _, _, _, _, true, rfl, .ty _, .base (.tup hr), kit_ty (by decide +kernel), _, rfl, itf rfl ?_⟩
    refine ⟨_, rfl, r, _, rfl, .inr (SqT.of hr), rfl, _, rfl, itf rfl ?_⟩
    refine ⟨_, rfl, r, _, rfl, SqT.of hr, rfl, _, _, rfl, _, _, rfl, _, _, rfl, rfl, ?_⟩
    dsimp only [gName]
    show tSeq _ _ _ [_, _, _, _, _, _, _, _, _, _, _, _] _
    refine ⟨_, rfl, _, _, _, _, true, rfl, .ty _, .base (.int v), kit_ty (by decide +kernel), _, rfl, itf rfl ?_⟩
    refine ⟨_, rfl, _, _, _, _, false, rfl, .ty _, .base (.int v), kit_ty (by decide +kernel), _, rfl, itf rfl ?_⟩
    refine ⟨_, rfl, _, _, rfl, rfl, _, rfl, itt (decide_eq_true v0) ?_⟩
    refine ⟨_, rfl, _, _, rfl, rfl, _, rfl, itf (by rw [decide_eq_true v1]; rfl) ?_⟩
    have hg2 := E2 _ _ hg
    have ham2 := E2 _ _ ham
    have ed : ((d + 1 : Nat) : Int) - 1 = ((d : Nat) : Int) := by omega
    refine ⟨_, rfl, _, rfl, _, rfl, _, rfl, _, _, rfl, rfl, _, rfl, _, _, rfl, rfl, n0, _, rfl, _, _, rfl, rfl, _, rfl, ?_⟩
    dsimp only
    rw [ed]
    refine ⟨n, (p + v) % n, d, g, l1, ts, fs, rfl, by omega, mod_lo n0, mod_hi n0, nB4, by omega, hg2, h1, lf, l100, inr, sf.le, sf.sum, sf.dvd, fun H3 e3 => ⟨_, rfl, itf rfl ?_⟩⟩
    refine ⟨_, rfl, _, rfl, _, rfl, _, rfl, _, _, rfl, rfl, _, rfl, _, _, rfl, rfl, n0, _, rfl, _, _, rfl, rfl, _, rfl, ?_⟩
    dsimp only
    rw [ed]
    refine ⟨n, (p - v) % n, d, g, l2, ts, bs, rfl, by omega, mod_lo n0, mod_hi n0, nB4, by omega, e3 _ _ hg2, e3 _ _ h2, lb, l100, inr, sb.le, sb.sum, sb.dvd, fun H4 e4 => ⟨_, rfl, itf rfl ?_⟩⟩
    have e24 := ext e3 e4
    have shR : Shw 1000000 (.tuple [.int v, gI false fs, gI false bs]) := (shw_tuple (c := 200000) (ds := [.int v, gI false fs, gI false bs]) fun e he => by
      simp only [List.mem_cons, List.not_mem_nil, or_false] at he
      rcases he with rfl | rfl | rfl
      · exact (shI v v0 (Int.le_trans (Int.le_of_lt v1) n1100)).up (by decide)
      · exact shF
      · exact shB).up (by simp)
    have shR60 : Sh 60 (.tuple [.int v, gI false fs, gI false bs]) := sh_tuple (n := 59) fun e he => by
      simp only [List.mem_cons, List.not_mem_nil, or_false] at he
      rcases he with rfl | rfl | rfl
      · exact sh_int v
      · exact sh60 _
      · exact sh60 _
    have dpR : ∀ {H2 : Hp} {r l1 l2 : Addr}, H2 r = some (.tup [.int v, .ref l1, .ref l2]) → H2 l1 = some (.lst (fs.map V.int)) → H2 l2 = some (.lst (bs.map V.int)) → Dp K H2 (.ref r) (.tuple [.int v, gI false fs, gI false bs]) := fun h1 h2 h3 => .tup (SqT.of h1) (.cons (.int _) (.cons (gI_dp (q := (false, _)) h2) (.cons (gI_dp (q := (false, _)) h3) .nil)))
    refine ⟨_, rfl, r, _, rfl, dpR (e24 _ _ hr) (e24 _ _ h1) (e24 _ _ h2), shR.1, shR.2.1, Nat.le_trans shR.2.2 (by decide), shR60.2, ?_⟩
    have h14 := e24 _ _ h1
    have h24 := e24 _ _ h2
    dsimp only [gName]
    show tSeq _ _ _ [_, _, _, _, _, _, _, _, _, _, _, _] _
    have E4 := ext E2 e24
    refine ⟨_, rfl, .inl ⟨rfl, _, SqL.of h14⟩, l1, _, rfl, rfl, h14, ?_⟩
    have h25 : (upd H4 l1 (.lst [])) l2 = some (.lst (bs.map V.int)) := by rw [upd_ne n12.symm]; exact h24
    refine ⟨_, rfl, .inl ⟨rfl, _, SqL.of h25⟩, l2, _, _, rfl, rfl, h25, by rw [List.length_map]; exact Nat.lt_of_le_of_lt (show bs.length ≤ 100 by omega) (by decide), ?_⟩
    generalize hG : upd (upd H4 l1 _) l2 _ = H6
    have E6 : Ex H H6 := by
      rw [← hG]
      exact ex_upd (ex_upd E4 nl1) nl2
    clear hG
    refine ⟨_, rfl, _, rfl, _, rfl, g, _, rfl, .inl ⟨SqL.of (E6 _ _ hg), fun tg htg => ?_⟩⟩
    generalize hG : upd H6 tg _ = H7
    have e7 := exG hG htg
    have htg7 := atG hG
    clear hG
    have E7 := ext E6 e7
    refine ⟨_, rfl, rfl, ?_⟩
    show sp_call_from_sum [_, _, _, _] _ _ _
    refine ⟨n, p, d, (true, tg), am, ts, cs, rfl, by omega, p0, p1, nB4, d1, htg7, E7 _ _ ham, ne, l100, inr, nod, sm, fun r' m1 m2 H8 e8 hr' hm1 hm2 _ _ _ _ => ?_⟩
    rw [ev] at hr'
    rw [ef] at hm1
    rw [eb] at hm2
    dsimp only [gName]
    have E8 := ext E7 e8
    refine ⟨_, rfl, r', _, rfl, dpR hr' hm1 hm2, shR.1, shR.2.1, Nat.le_trans shR.2.2 (by decide), shR60.2, _, rfl, rfl, _, rfl, itt (decide_eq_true rfl) ?_⟩
    refine ⟨_, rfl, _, rfl, slen rfl, ?_⟩
    (intro tq ntq; generalize hGtq : upd _ tq _ = H9; have eH9 := exG hGtq ntq; have htq := atG hGtq; clear hGtq)
    refine ⟨tq, _, rfl, dpA htq (eH9 _ _ (E8 _ _ hg)) (eH9 _ _ (E8 _ _ ham)), shA.1, shA.2.1, Nat.le_trans shA.2.2 (by decide), shA60.2, _, rfl, rfl, ?_⟩
    exact (congrArg (fun b => Q (V.bl b) H9) (decide_eq_true rfl)).mpr (kk _ (ext E8 eH9))
end

theorem sql_keep {K : PySem.W.Frag} {H1 H2 H3 : Hp} {s a : Addr} {xs : List V} (h : SqL K H1 a xs) (hs : H1 s = none) (e : Ex H1 H2) (xb : XB s H2 H3) : SqL K H3 a xs := by
  rcases h with h | h
  · refine .inl ?_
    rcases h with h | ⟨o, h⟩
    · exact .inl (xb _ _ (ne_of_none h hs) (e _ _ h))
    · exact .inr ⟨o, xb _ _ (ne_of_none h hs) (e _ _ h)⟩
  · exact .inr h

/-- a cut list of ints is one -/
theorem cut_map (ns : List Int) (lo hi : Option Int) : ∃ ms : List Int, cutV (ns.map V.int) lo hi = ms.map V.int := by
  refine ⟨(ns.drop (HT.sIx (ns.map V.int).length 0 lo)).take (HT.sIx (ns.map V.int).length (ns.map V.int).length hi - HT.sIx (ns.map V.int).length 0 lo), ?_⟩
  unfold cutV
  rw [List.map_take, List.map_drop]
theorem cut_len (xs : List V) (lo hi : Option Int) : (cutV xs lo hi).length ≤ xs.length := by
  unfold cutV
  rw [List.length_take, List.length_drop]
  omega
section
variable {P : Program} {w : World} {K : PySem.W.Frag} {mg : Str → Option Value} {base : Heap}
def sp_law (K : PySem.W.Frag) : Sp := fun vs H Q _ => ∃ (a : Addr) (ns : List Int), vs = [.ref a] ∧ SqL K H a (ns.map V.int) ∧ ns.length ≤ 63 ∧ ∀ H2, Q (.bl true) H2
theorem ok_law (T : TX K mg) : CG.FnOkG P w K mg base 7 T.f_law T.fd_law ["_law_script"] (sp_law K) := by
  refine CG.okG T.F_law sc_law (fun vs H Q E h => ?_) (fun cdv A outer s H vs Q E gd hr h => ?_)
  · obtain ⟨a, ns, rfl, _⟩ := h
    rfl
  · obtain ⟨a, ns, rfl, hS, hlen, k⟩ := h
    refine ⟨_, (pss_cons (ps_for PassesOwn.never rfl (pi_list (pe_op (r := rCatR K) op_catR (pe_lst (pa_cons (pe_call (ok_law_cell_at T) (hr.mono (by decide)) rfl T.m_law_cell_at T.F_law_cell_at.kp T.b_law_cell_at .nil pass0 (pa_cons (pv 0) (pa_cons pe_int pa_nil))) pa_nil)) (pe_slice sl_list (pv 0) (po_some pe_int) (po_some pe_int)))) (pg_name (i := 1) sc_law.nd rfl (Or.inl rfl)) (pss_cons (ps_set (i := 2) sc_law.nd rfl (Or.inl rfl) (pe_call (ok_law_source T) (hr.mono (by decide)) rfl T.m_law_source T.F_law_source.kp T.b_law_source .nil pass0 (pa_cons (pv 1) pa_nil))) (pss_one (ps_for PassesOwn.never rfl (pi_range1 rfl T.z_range (pa_cons pe_int pa_nil)) (pg_name (i := 3) sc_law.nd rfl (Or.inl rfl)) (pss_cons (ps_set (i := 4) sc_law.nd rfl (Or.inl rfl) (pe_op op_shlW pe_int (pe_call (ok_law_take T) (hr.mono (by decide)) rfl T.m_law_take T.F_law_take.kp T.b_law_take .nil pass0 (pa_cons (pv 2) (pa_cons pe_int pa_nil))))) (pss_cons (ps_set (i := 5) sc_law.nd rfl (Or.inl rfl) (pe_lst (pa_cons (pe_op op_add pe_int (pe_call (ok_law_take T) (hr.mono (by decide)) rfl T.m_law_take T.F_law_take.kp T.b_law_take .nil pass0 (pa_cons (pv 2) (pa_cons pe_int pa_nil)))) (pa_cons (pe_op op_add pe_int (pe_call (ok_law_large T) (hr.mono (by decide)) rfl T.m_law_large T.F_law_large.kp T.b_law_large .nil pass0 (pa_cons (pv 2) (pa_cons (pe_op op_pow pe_int pe_int) pa_nil)))) (pa_cons (pe_op op_mulI (pv 4) (pe_op op_add pe_int (pe_call (ok_law_take T) (hr.mono (by decide)) rfl T.m_law_take T.F_law_take.kp T.b_law_take .nil pass0 (pa_cons (pv 2) (pa_cons pe_int pa_nil))))) pa_nil))))) (pss_cons (ps_set (i := 6) sc_law.nd rfl (Or.inl rfl) (pe_ix ix_list (pv 5) (pe_call (ok_law_take T) (hr.mono (by decide)) rfl T.m_law_take T.F_law_take.kp T.b_law_take .nil pass0 (pa_cons (pv 2) (pa_cons pe_int pa_nil))) (fun _ _ => rfl))) (pss_cons (ps_set (i := 7) sc_law.nd rfl (Or.inl rfl) (pe_call (ok_law_targets T) (hr.mono (by decide)) rfl T.m_law_targets T.F_law_targets.kp T.b_law_targets .nil pass0 (pa_cons (pv 2) (pa_cons (pv 6) (pa_cons (pe_ix ix_list (pe_lst (pa_cons pe_int (pa_cons pe_int (pa_cons pe_int (pa_cons pe_int pa_nil))))) (pe_call (ok_law_take T) (hr.mono (by decide)) rfl T.m_law_take T.F_law_take.kp T.b_law_take .nil pass0 (pa_cons (pv 2) (pa_cons pe_int pa_nil))) (fun _ _ => rfl)) pa_nil))))) (pss_cons (ps_set (i := 8) sc_law.nd rfl (Or.inl rfl) (pe_op op_add pe_int (pe_ix ix_list (pe_lst (pa_cons (pe_call (ok_law_take T) (hr.mono (by decide)) rfl T.m_law_take T.F_law_take.kp T.b_law_take .nil pass0 (pa_cons (pv 2) (pa_cons pe_int pa_nil))) (pa_cons (pe_call (ok_law_take T) (hr.mono (by decide)) rfl T.m_law_take T.F_law_take.kp T.b_law_take .nil pass0 (pa_cons (pv 2) (pa_cons pe_int pa_nil))) (pa_cons (pe_call (ok_law_take T) (hr.mono (by decide)) rfl T.m_law_take T.F_law_take.kp T.b_law_take .nil pass0 (pa_cons (pv 2) (pa_cons pe_int pa_nil))) pa_nil)))) (pe_call (ok_law_take T) (hr.mono (by decide)) rfl T.m_law_take T.F_law_take.kp T.b_law_take .nil pass0 (pa_cons (pv 2) (pa_cons pe_int pa_nil))) (fun _ _ => rfl)))) (pss_cons (ps_asg (pe_call (ok_law_made T) (hr.mono (by decide)) rfl T.m_law_made T.F_law_made.kp T.b_law_made .nil pass0 (pa_cons (pv 2) (pa_cons (pv 6) (pa_cons (pv 7) (pa_cons (pv 8) pa_nil))))) (pg_tup rfl (pgs_cons (pg_name (i := 9) sc_law.nd rfl (Or.inl rfl)) (pgs_cons (pg_name (i := 10) sc_law.nd rfl (Or.inl rfl)) pgs_nil)))) (pss_one (ps_if (pt_not (pt_val (CG.pe_callG (ok_law_right T) gd hr rfl T.m_law_right T.F_law_right.kp T.b_law_right .nil pass0 (pa_cons (pv 6) (pa_cons (pv 7) (pa_cons (pv 9) (pa_cons (pv 8) (pa_cons (pv 10) pa_nil)))))))) (pss_one (ps_ret pe_bl)) pss_nil)))))))))))) (pss_cons (ps_set (i := 2) sc_law.nd rfl (Or.inl rfl) (pe_call (ok_law_source T) (hr.mono (by decide)) rfl T.m_law_source T.F_law_source.kp T.b_law_source .nil pass0 (pa_cons (pe_call (ok_law_cell_at T) (hr.mono (by decide)) rfl T.m_law_cell_at T.F_law_cell_at.kp T.b_law_cell_at .nil pass0 (pa_cons (pv 0) (pa_cons pe_int pa_nil))) pa_nil))) (pss_cons (ps_set (i := 6) sc_law.nd rfl (Or.inl rfl) (pe_op op_add pe_int (pe_call (ok_law_large T) (hr.mono (by decide)) rfl T.m_law_large T.F_law_large.kp T.b_law_large .nil pass0 (pa_cons (pv 2) (pa_cons (pe_op op_pow pe_int pe_int) pa_nil))))) (pss_cons (ps_set (i := 7) sc_law.nd rfl (Or.inl rfl) (pe_call (ok_law_targets T) (hr.mono (by decide)) rfl T.m_law_targets T.F_law_targets.kp T.b_law_targets .nil pass0 (pa_cons (pv 2) (pa_cons (pv 6) (pa_cons pe_int pa_nil))))) (pss_cons (ps_asg (pe_call (ok_law_made T) (hr.mono (by decide)) rfl T.m_law_made T.F_law_made.kp T.b_law_made .nil pass0 (pa_cons (pv 2) (pa_cons (pv 6) (pa_cons (pv 7) (pa_cons pe_int pa_nil))))) (pg_tup rfl (pgs_cons (pg_name (i := 9) sc_law.nd rfl (Or.inl rfl)) (pgs_cons (pg_name (i := 10) sc_law.nd rfl (Or.inl rfl)) pgs_nil)))) (pss_one (ps_ret (CG.pe_callG (ok_law_right T) gd hr rfl T.m_law_right T.F_law_right.kp T.b_law_right .nil pass0 (pa_cons (pv 6) (pa_cons (pv 7) (pa_cons (pv 9) (pa_cons pe_int (pa_cons (pv 10) pa_nil))))))))))))), ?_⟩
    refine ⟨_, rfl, a, ns, 0, rfl, hS, by decide, fun i0 => ⟨by show 1 ≤ sizeLine; decide, fun b hb => ?_⟩⟩
    have e1 := exn (o := .lst [.int i0]) hb
    refine ⟨_, rfl, 1, rfl, 4, rfl, a, _, rfl, Evl.ex_l e1 hS, fun c hc => ?_⟩
    obtain ⟨ms, em⟩ := cut_map ns (some 1) (some 4)
    have ml : (ms.map V.int).length ≤ 63 := by
      rw [← em]
      exact Nat.le_trans (cut_len _ _ _) (by rw [List.length_map]; exact hlen)
    rw [em] at *
    have e2 := exn (o := .lst (ms.map V.int)) hc
    refine ⟨b, c, _, _, rfl, rfl, SqL.of (exn hc _ _ upd_same), SqL.of upd_same, ?_, fun d hd => ?_⟩
    · exact Nat.le_trans (show 1 + _ ≤ 64 by omega) (by decide)
    have e3 := exn (o := .lst ([V.int i0] ++ ms.map V.int)) hd
    refine ⟨d, rfl, ⟨_, SqL.of upd_same⟩, ?_⟩
    refine for_it (walk_list (xs := (i0 :: ms).map V.int)) (fun i σ H => (∃ y1 y2 y3 y4 y5 y6 y7 y8 y9 y10, σ = [some (.ref a), y1, y2, y3, y4, y5, y6, y7, y8, y9, y10]) ∧ H d = some (.lst ((i0 :: ms).map V.int)) ∧ SqL K H a (ns.map V.int)) ⟨⟨_, _, _, _, _, _, _, _, _, _, rfl⟩, upd_same, Evl.ex_l (ext e1 (ext e2 e3)) hS⟩ (fun i σ H _ p => SqL.of p.2.1) ?_ ?_
    · rintro i x σ _ H1 hi ⟨⟨y1, y2, y3, y4, y5, y6, y7, y8, y9, y10, rfl⟩, hd1, hS1⟩ ⟨rfl, hx⟩
      obtain ⟨n, _, rfl⟩ := map_get hx
      refine ⟨_, rfl, _, rfl, fun H2 s e2 hs src => ?_⟩
      have nd : d ≠ s := ne_of_none hd1 hs
      have hd2 := e2 _ _ hd1
      have src := src.less (show 60000 ≤ 1000000000 by decide)
      dsimp only [gName]
      refine ⟨3, rfl, by decide, by decide, ?_⟩
      refine for_it walk_range (fun j σ Hx => (∃ y1 y3 y4 y5 y6 y7 y8 y9 y10, σ = [some (.ref a), y1, some (.ref s), y3, y4, y5, y6, y7, y8, y9, y10]) ∧ XB s H2 Hx ∧ Sr5 Hx s (60000 - 20000 * j)) ⟨⟨_, _, _, _, _, _, _, _, _, rfl⟩, XB.refl, src⟩ (fun _ _ _ _ _ => True.intro) ?_ ?_
      · rintro j x σ _ H2' hj ⟨⟨y1, y3, y4, y5, y6, y7, y8, y9, y10, rfl⟩, xb2, src⟩ ⟨rfl, rfl⟩
        have hj3 : j < 3 := hj
        have src := src.less (show 20000 * (2 - j) + 20000 ≤ 60000 - 20000 * j by omega)
        have up : ∀ {k m : Nat} {Hx : Hp}, Sr5 Hx s (20000 * (2 - j) + k) → m ≤ k → Sr5 Hx s (20000 * (2 - j) + m) := fun h l => h.less (by omega)
        dsimp only [gName]
        show tSeq _ _ _ [_, _, _, _, _, _, _, _, _, _, _] _
        refine ⟨_, rfl, s, 30, 20000 * (2 - j) + 19999, rfl, src, by decide, by decide +kernel, fun r1 H3 r10 r11 xb3 sr3 => ⟨_, _, rfl, rfl, shl_one r10 (by omega), ?_⟩⟩
        have pw : (1 : Int) * 2 ^ r1.toNat ≤ 2 ^ 30 := by
          rw [Int.one_mul]
          exact pow2_le (by omega)
        have pw0 : (1 : Int) ≤ 1 * 2 ^ r1.toNat := by
          rw [Int.one_mul]
          exact pow2_pos _
        have e30 : (2 : Int) ^ 30 = 1073741824 := by decide
        rw [e30] at pw
        dsimp only [gName]
        generalize (1 : Int) * 2 ^ r1.toNat = pwr at pw pw0
        show tSeq _ _ _ [_, _, _, _, _, _, _, _, _, _, _] _
        refine ⟨_, rfl, s, 40, 20000 * (2 - j) + 19998, rfl, sr3, by decide, by decide +kernel, fun r2 H4 r20 r21 xb4 sr4 => ⟨_, _, rfl, rfl, ?_⟩⟩
        refine ⟨_, rfl, _, _, rfl, rfl, ⟨by decide, by decide, by decide⟩, s, _, 20000 * (2 - j) + 19994, rfl, sr4, by decide, fun r3 H5 r30 r31 xb5 sr5 => ⟨_, _, rfl, rfl, ?_⟩⟩
        have e10 : (10 : Int) ^ (30 : Int).toNat = 1000000000000000000000000000000 := by decide
        rw [e10] at r31
        refine ⟨_, rfl, _, rfl, s, 99, 20000 * (2 - j) + 19993, rfl, sr5, by decide, by decide +kernel, fun r4 H6 r40 r41 xb6 sr6 => ⟨_, _, rfl, rfl, _, _, rfl, rfl, mul_ok (.inl (by omega)), slen rfl, ?_⟩⟩
        (intro rl nrl; generalize hGrl : upd _ rl _ = H7; have eH7 := exG hGrl nrl; have hrl := atG hGrl; clear hGrl)
        have nrl := sr6.ne nrl
        have q1 : pwr * (1 + r4) ≤ 1073741824 * 99 := Int.mul_le_mul (by omega) (by omega) (by omega) (by decide)
        have q0 : 1 ≤ pwr * (1 + r4) := by
          have := Int.mul_le_mul_of_nonneg_left (show 1 ≤ 1 + r4 by omega) (show 0 ≤ pwr by omega)
          omega
        dsimp only [gName]
        show tSeq _ _ _ [_, _, _, _, _, _, _, _, _, _, _] _
        refine ⟨_, rfl, _, rfl, s, 3, 20000 * (2 - j) + 19992, rfl, sr6.mono eH7, by decide, by decide +kernel, fun r5 H8 r50 r51 xb8 sr8 => ?_⟩
        obtain ⟨rg, mv, gv⟩ := at_ex (xs := [1 + r2, 1 + r3, pwr * (1 + r4)]) r50 r51
        have rg2 : 0 < rg ∧ rg ≤ 10 ^ 40 := by
          have e40 : (10 : Int) ^ 40 = 10000000000000000000000000000000000000000 := by decide
          rw [e40]
          simp only [List.mem_cons, List.not_mem_nil, or_false] at mv
          rcases mv with rfl | rfl | rfl <;> omega
        refine ⟨rl, _, _, _, rfl, rfl, SqL.of (xb8 _ _ nrl hrl), gv, ?_⟩
        clear gv mv q0 q1
        dsimp only [gName]
        show tSeq _ _ _ [_, _, _, _, _, _, _, _, _, _, _] _
        refine ⟨_, rfl, _, rfl, slen rfl, ?_⟩
        (intro bl nbl; generalize hGbl : upd _ bl _ = H8b; have eH8b := exG hGbl nbl; have hbl := atG hGbl; clear hGbl)
        have nbl' := sr8.ne nbl
        refine ⟨_, rfl, s, 4, 20000 * (2 - j) + 19991, rfl, sr8.mono eH8b, by decide, by decide +kernel, fun rb H8c rb0 rb1 xb8c sr8c => ?_⟩
        obtain ⟨bd, mv, gv⟩ := at_ex (xs := [8, 8, 8, 40]) rb0 rb1
        have bd1 : 1 ≤ bd ∧ bd ≤ 100 := by
          simp only [List.mem_cons, List.not_mem_nil, or_false] at mv
          rcases mv with rfl | rfl | rfl | rfl <;> decide
        refine ⟨bl, _, _, _, rfl, rfl, SqL.of (xb8c _ _ nbl' hbl), gv, ?_⟩
        refine ⟨s, rg, bd, 20000 * (2 - j) + 19590, rfl, sr8c, rg2.1, bd1.1, bd1.2, fun g ts H9 ng hg ne l100 inr nod xb9 sr9 => ?_⟩
        have ngs : g ≠ s := sr8c.ne ng
        clear gv mv
        dsimp only [gName]
        show tSeq _ _ _ [_, _, _, _, _, _, _, _, _, _, _] _
        refine ⟨_, rfl, s, 12, 20000 * (2 - j) + 19589, rfl, sr9, by decide, by decide +kernel, fun r6 Ha r60 r61 xba sra => ?_⟩
        refine ⟨_, rfl, s, 4, 20000 * (2 - j) + 19588, rfl, sra, by decide, by decide +kernel, fun r7 Hb r70 r71 xbb srb => ?_⟩
        refine ⟨_, rfl, s, 120, 20000 * (2 - j) + 19587, rfl, srb, by decide, by decide +kernel, fun r8 Hc r80 r81 xbc src' => ⟨slen rfl, ?_⟩⟩
        (intro dl ndl; generalize hGdl : upd _ dl _ = Hd; have eHd := exG hGdl ndl; have hdl := atG hGdl; clear hGdl)
        have ndl' := src'.ne ndl
        refine ⟨_, rfl, s, 3, 20000 * (2 - j) + 19586, rfl, src'.mono eHd, by decide, by decide +kernel, fun r9 He r90 r91 xbe sre => ?_⟩
        obtain ⟨dp, mv, gv⟩ := at_ex (xs := [r6, r7, r8]) r90 r91
        obtain ⟨dn, rfl, dn1⟩ : ∃ m : Nat, dp = (m : Int) ∧ m ≤ 120 := by
          refine ⟨dp.toNat, ?_, ?_⟩ <;>
          · simp only [List.mem_cons, List.not_mem_nil, or_false] at mv
            rcases mv with rfl | rfl | rfl <;> omega
        refine ⟨dl, _, _, _, rfl, rfl, SqL.of (xbe _ _ ndl' hdl), gv, _, _, rfl, rfl, ?_⟩
        have edn : (1 : Int) + (dn : Int) = ((dn + 1 : Nat) : Int) := by omega
        dsimp only [gName]
        rw [edn]
        show tSeq _ _ _ [_, _, _, _, _, _, _, _, _, _, _] _
        have x9e : XB s H9 He := xba.trans (xbb.trans (xbc.trans ((XB.of eHd).trans xbe)))
        have hge := x9e _ _ ngs hg
        refine ⟨_, rfl, _, rfl, _, rfl, _, rfl, s, g, rg, dn + 1, 20000 * (2 - j) + 9586, ts, rfl, sre, rg2.1, rg2.2, by omega, hge, ngs, ne, l100, inr, fun p cs q l Hf p0 p1 sm xbf srf hq hl nl => ?_⟩
        refine ⟨q, _, rfl, SqT.of hq, rfl, _, _, rfl, _, _, rfl, rfl, ?_⟩
        dsimp only [gName]
        have x2f : XB s H2' Hf := xb3.trans (xb4.trans (xb5.trans (xb6.trans ((XB.of eH7).trans (xb8.trans ((XB.of eH8b).trans (xb8c.trans (xb9.trans (x9e.trans xbf)))))))))
        have hgf := xbf _ _ ngs hge
        refine ⟨_, rfl, _, rfl, _, rfl, _, rfl, _, rfl, rg, p, dn, g, l, ts, cs, rfl, rg2.1, rg2.2, p0, p1, by omega, hgf, hl, ne, l100, inr, nod, sm, fun Hy ey => ?_⟩
        exact ⟨_, rfl, itf rfl ⟨⟨_, _, _, _, _, _, _, _, _, rfl⟩, xb2.trans (x2f.trans (XB.of ey)), (srf.mono ey).less (by omega)⟩⟩
      · rintro σ Hx ⟨⟨y1, y3, y4, y5, y6, y7, y8, y9, y10, rfl⟩, xbx, srx⟩
        exact ⟨⟨_, _, _, _, _, _, _, _, _, _, rfl⟩, xbx _ _ nd hd2, sql_keep hS1 hs e2 xbx⟩
    · rintro σ H1 ⟨⟨y1, y2, y3, y4, y5, y6, y7, y8, y9, y10, rfl⟩, hd1, hS1⟩
      dsimp only
      show tSeq _ _ _ [_, _, _, _, _, _, _, _, _, _, _] _
      refine ⟨_, rfl, a, ns, 0, rfl, hS1, by decide, fun i0 => ?_⟩
      refine ⟨_, rfl, fun H2 s e2 hs src => ?_⟩
      have src := src.less (show 30000 ≤ 1000000000 by decide)
      dsimp only [gName]
      show tSeq _ _ _ [_, _, _, _, _, _, _, _, _, _, _] _
      refine ⟨_, rfl, _, _, rfl, rfl, ⟨by decide, by decide, by decide⟩, s, _, 29996, rfl, src, by decide, fun r3 H3 r30 r31 xb3 sr3 => ⟨_, _, rfl, rfl, ?_⟩⟩
      have e10 : (10 : Int) ^ (30 : Int).toNat = 1000000000000000000000000000000 := by decide
      rw [e10] at r31
      have rg2 : 0 < 1 + r3 ∧ 1 + r3 ≤ 10 ^ 40 := by
        have e40 : (10 : Int) ^ 40 = 10000000000000000000000000000000000000000 := by decide
        rw [e40]
        omega
      dsimp only [gName]
      generalize 1 + r3 = rg at rg2
      show tSeq _ _ _ [_, _, _, _, _, _, _, _, _, _, _] _
      refine ⟨_, rfl, _, rfl, s, rg, 3, 29595, rfl, sr3, rg2.1, by decide, by decide, fun g ts H9 ng hg ne l100 inr nod xb9 sr9 => ?_⟩
      have ngs : g ≠ s := sr3.ne ng
      dsimp only [gName]
      show tSeq _ _ _ [_, _, _, _, _, _, _, _, _, _, _] _
      refine ⟨_, rfl, _, rfl, _, rfl, s, g, rg, 1000, 19595, ts, rfl, sr9, rg2.1, rg2.2, by decide, hg, ngs, ne, l100, inr, fun p cs q l Hf p0 p1 sm xbf srf hq hl nl => ?_⟩
      refine ⟨q, _, rfl, SqT.of hq, rfl, _, _, rfl, _, _, rfl, rfl, ?_⟩
      dsimp only [gName]
      refine ⟨_, rfl, _, rfl, _, rfl, _, rfl, rg, p, 999, g, l, ts, cs, rfl, rg2.1, rg2.2, p0, p1, by decide, xbf _ _ ngs hg, hl, ne, l100, inr, nod, sm, fun Hy ey => k _⟩
end

/-! ### the head by facts -/
def dd0 : He.DefD := ⟨("is_integer", none), "is_integer", "is_integer", defArgs s_is_integer, defBody s_is_integer, defScope s_is_integer, [], []⟩
def dd1 : He.DefD := ⟨("is_at_least", none), "is_at_least", "is_at_least", defArgs s_is_at_least, defBody s_is_at_least, defScope s_is_at_least, [], []⟩
def dd2 : He.DefD := ⟨("is_between", none), "is_between", "is_between", defArgs s_is_between, defBody s_is_between, defScope s_is_between, [], []⟩
def dd3 : He.DefD := ⟨("require_at_least", none), "require_at_least", "require_at_least", defArgs s_require_at_least, defBody s_require_at_least, defScope s_require_at_least, [], []⟩
def dd4 : He.DefD := ⟨("require_places", none), "require_places", "require_places", defArgs s_require_places, defBody s_require_places, defScope s_require_places, [], []⟩
def dd5 : He.DefD := ⟨("require_place", none), "require_place", "require_place", defArgs s_require_place, defBody s_require_place, defScope s_require_place, [], []⟩
def dd6 : He.DefD := ⟨("require_counts", none), "require_counts", "require_counts", defArgs s_require_counts, defBody s_require_counts, defScope s_require_counts, [], []⟩
def dd7 : He.DefD := ⟨("require_sum", none), "require_sum", "require_sum", defArgs s_require_sum, defBody s_require_sum, defScope s_require_sum, [], []⟩
def dd8 : He.DefD := ⟨("Block", some "__init__"), "__init__", "Block.__init__", defArgs s_Block_init, defBody s_Block_init, defScope s_Block_init, [], []⟩
def dd9 : He.DefD := ⟨("Block", some "paired"), "paired", "Block.paired", defArgs s_Block_paired, defBody s_Block_paired, defScope s_Block_paired, [], []⟩
def dd10 : He.DefD := ⟨("Block", some "joined"), "joined", "Block.joined", defArgs s_Block_joined, defBody s_Block_joined, defScope s_Block_joined, [], []⟩
def dd11 : He.DefD := ⟨("next_blocks", none), "next_blocks", "next_blocks", defArgs s_next_blocks, defBody s_next_blocks, defScope s_next_blocks, [], []⟩
def dd12 : He.DefD := ⟨("call_from_sum", none), "call_from_sum", "call_from_sum", defArgs s_call_from_sum, defBody s_call_from_sum, defScope s_call_from_sum, [], []⟩
def dd13 : He.DefD := ⟨("_law_cell_at", none), "_law_cell_at", "_law_cell_at", defArgs s_law_cell_at, defBody s_law_cell_at, defScope s_law_cell_at, [], []⟩
def dd14 : He.DefD := ⟨("_law_source", none), "_law_source", "_law_source", defArgs s_law_source, defBody s_law_source, defScope s_law_source, [], []⟩
def dd15 : He.DefD := ⟨("_law_take", none), "_law_take", "_law_take", defArgs s_law_take, defBody s_law_take, defScope s_law_take, [], []⟩
def dd16 : He.DefD := ⟨("_law_large", none), "_law_large", "_law_large", defArgs s_law_large, defBody s_law_large, defScope s_law_large, [], []⟩
def dd17 : He.DefD := ⟨("_law_shuffled", none), "_law_shuffled", "_law_shuffled", defArgs s_law_shuffled, defBody s_law_shuffled, defScope s_law_shuffled, [], []⟩
def dd18 : He.DefD := ⟨("_law_gcd", none), "_law_gcd", "_law_gcd", defArgs s_law_gcd, defBody s_law_gcd, defScope s_law_gcd, [], []⟩
def dd19 : He.DefD := ⟨("_law_inverse", none), "_law_inverse", "_law_inverse", defArgs s_law_inverse, defBody s_law_inverse, defScope s_law_inverse, [], []⟩
def dd20 : He.DefD := ⟨("_law_targets", none), "_law_targets", "_law_targets", defArgs s_law_targets, defBody s_law_targets, defScope s_law_targets, [], []⟩
def dd21 : He.DefD := ⟨("_law_made", none), "_law_made", "_law_made", defArgs s_law_made, defBody s_law_made, defScope s_law_made, [], []⟩
def dd22 : He.DefD := ⟨("_law_is_sum", none), "_law_is_sum", "_law_is_sum", defArgs s_law_is_sum, defBody s_law_is_sum, defScope s_law_is_sum, [], []⟩
def dd23 : He.DefD := ⟨("_law_right", none), "_law_right", "_law_right", defArgs s_law_right, defBody s_law_right, defScope s_law_right, [], []⟩
def dd24 : He.DefD := ⟨("law", none), "law", "law", defArgs s_law, defBody s_law, defScope s_law, [], []⟩
def fnL0 : List He.DefD := [dd0, dd1, dd2, dd3, dd4, dd5, dd6, dd7, dd8, dd9, dd10, dd11, dd12, dd13, dd14, dd15, dd16, dd17, dd18, dd19, dd20, dd21, dd22, dd23, dd24]
def fnL : List He.DefD := fnL0
def faL0 : List He.Fa := [.glo "is_integer", .glo "is_at_least", .glo "is_between", .glo "require_at_least", .glo "require_places", .glo "require_place", .glo "require_counts", .glo "require_sum", .glo "next_blocks", .glo "call_from_sum", .glo "_law_cell_at", .glo "_law_source", .glo "_law_take", .glo "_law_large", .glo "_law_shuffled", .glo "_law_gcd", .glo "_law_inverse", .glo "_law_targets", .glo "_law_made", .glo "_law_is_sum", .glo "_law_right", .glo "law", .glo "Block", .cls "Block", .mkr "Block", .meth "Block" "paired", .meth "Block" "joined", .noat "Block" "mean", .noat "Block" "counts", .noat "Block" "number"]
def faL1 : List He.Fa := [.free "abs", .free "bool", .free "enumerate", .free "int", .free "isinstance", .free "len", .free "list", .free "min", .free "range", .free "repr", .free "sum", .free "tuple", .free "zip"]
def faL : List He.Fa := faL0 ++ faL1
def exB (K : PySem.W.Frag) : Bool := true
abbrev AlK : Type := He.AlD × Bool
def obsK2 (K : PySem.W.Frag) : AlK := (He.obsD faL fnL K, exB K)
def SaysK (K : PySem.W.Frag) : Prop := obsK2 K = (He.valD fnL, true)
def obsK (g : Addr → Option Obj) : AlK := obsK2 (He.frG g (He.asD g 4))
def hk : PySem.W.Hook where
  α := AlK
  obs := fun s => obsK s.heap.get?
  val := fun _ => (He.valD fnL, true)
  says := fun _ h => ∃ K : PySem.W.Frag, K.In h ∧ SaysK K
  of := fun _ _ e => ⟨_, He.frG_in, e⟩
  keeps := fun _ _ _ ⟨K, hK, c⟩ k => ⟨K, PySem.W.Frag.In.keeps hK k, c⟩
def ob (s : PySem.W.SharedT) : AlK := obsK (HandSHeadRun.getT s)
theorem ob_eq (s : PySem.W.SharedT) : ob s = hk.obs s.abs := by
  have e : HandSHeadRun.getT s = s.abs.heap.get? := funext (HandSHeadRun.getT_eq s)
  show obsK (HandSHeadRun.getT s) = obsK s.abs.heap.get?
  rw [e]
def loose0 : List PySem.Str := ["SeatError", "InvalidTargets", "InvalidWitness", "InvalidNumber", "is_integer", "is_at_least", "is_between", "require_at_least", "require_places", "require_place", "require_counts", "require_sum", "Block", "next_blocks", "call_from_sum", "_law_cell_at", "_law_source", "_law_take", "_law_large", "_law_shuffled", "_law_gcd", "_law_inverse", "_law_targets", "_law_made", "_law_is_sum", "_law_right"]
def loose : List PySem.Str := loose0
abbrev RR : PySem.W.OpenRow := PySem.W.OpenLaw.row PySem.Challenge.rw_calledseats_k56_calls_from_sums
abbrev QQ : Program := PySem.W.view RR.prog [30]
def kOf (s : PySem.W.SharedT) : PySem.W.Frag := He.frG (HandSHeadRun.getT s) (He.asD (HandSHeadRun.getT s) 4)
theorem runA (w : World) : HandSHeadRun.RunEq RR QQ PySem.W.Hook.none (fun _ => ()) 30000 loose w := by
  intro os
  kernel_rfl
def obB (s : PySem.W.SharedT) : Bool × List He.FnW := (fnL.all fun d => d.ok (kOf s), fnL.map fun d => He.fnW (kOf s) d.at_)
def obC (s : PySem.W.SharedT) : Bool × Bool := (faL.all fun f => f.ok (kOf s), exB (kOf s))
theorem runB (w : World) (os : OsState) : (HandSHeadRun.endF (HandSHeadRun.stepQ (HandSHeadRun.denQ HandSHeadRun.tabQ) RR.prog w) 30000 RR.prog w os).map obB = some (true, fnL.map He.DefD.val) := by
  kernel_rfl
theorem runC (w : World) (os : OsState) : (HandSHeadRun.endF (HandSHeadRun.stepQ (HandSHeadRun.denQ HandSHeadRun.tabQ) RR.prog w) 30000 RR.prog w os).map obC = some (true, true) := by
  kernel_rfl
theorem runTop (w : World) : HandSHeadRun.RunEq RR QQ hk ob 30000 loose w := by
  intro os
  have hA := runA w os
  have hB := runB w os
  have hC := runC w os
  cases e : HandSHeadRun.endF (HandSHeadRun.stepQ (HandSHeadRun.denQ HandSHeadRun.tabQ) RR.prog w) 30000 RR.prog w os with
  | none =>
    rw [e] at hB
    cases hB
  | some s =>
    rw [e] at hA hB hC
    have hA2 := Option.some.inj hA
    have hB2 : obB s = (true, fnL.map He.DefD.val) := Option.some.inj hB
    have hC2 : obC s = (true, true) := Option.some.inj hC
    have hA3 := Prod.mk.inj hA2
    have hA4 := Prod.mk.inj hA3.2
    obtain ⟨b1, b2⟩ := Prod.mk.inj hB2
    obtain ⟨c1, c2⟩ := Prod.mk.inj hC2
    have ho : ob s = (He.valD fnL, true) := by
      show (((faL.all fun f => f.ok (kOf s)) && (fnL.all fun d => d.ok (kOf s)), fnL.map fun d => He.fnW (kOf s) d.at_), exB (kOf s)) = ((true, fnL.map He.DefD.val), true)
      rw [c1, b1, b2, c2]
      rfl
    exact congrArg some (Prod.ext hA3.1 (Prod.ext hA4.1 ho))
theorem fun_of {K : PySem.W.Frag} {d : He.DefD} {st : Stmt} {x q : Str} {fd : FuncData} (e1 : d.name = x) (e2 : d.qual = q) (e3 : d.params = defArgs st) (e4 : d.body = defBody st) (e5 : d.scope = defScope st) (e6 : d.dfl = []) (F : L2.FunD K d.name d.qual d.params d.body d.scope (d.dvs K) (d.kws K) (He.fAd K d.at_) fd) : Fun K x q st (He.fAd K d.at_) fd := by
  obtain ⟨oc, od, dV, kV, doc, pm, an, cdv, ct, osl, h1, h2, h3, h4, h5⟩ := F.ex
  have h6 : dV = .none := by
    rcases h4 with ⟨_, h⟩ | ⟨h, _⟩
    · exact h
    · exact absurd (by show d.dfl.map _ = []; rw [e6]; rfl) h
  subst e1 e2
  rw [e3, e4, e5, h6] at h1
  exact ⟨⟨oc, od, kV, doc, pm, an, cdv, ct, osl, h1, h2, h3⟩, F.kp⟩
set_option maxHeartbeats 0 in
theorem tx_of {K : PySem.W.Frag} {h : Heap} {mg : Str → Option Value} (X : K.In h) (G : h.Ns mainGlobals mg) (c2 : SaysK K) :
    ∃ T : TX K mg, mg "law" = some (.ref T.f_law) ∧ ∀ (s : Shared) (v : Value), BindsTo s T.fd_law ⟨[v], []⟩ [("_law_script", v)] := by
  have c : He.SaysD faL fnL K := congrArg (fun z : AlK => z.1) c2
  have cx : exB K = true := congrArg (fun z : AlK => z.2) c2
  obtain ⟨fd0, D0⟩ := c.def_ 0 (d := dd0) rfl
  have F0 : Fun K "is_integer" "is_integer" s_is_integer (He.fAd K dd0.at_) fd0 := fun_of rfl rfl rfl rfl rfl rfl D0
  have b0 := F0.binds (ps := ["value"]) fun _ _ _ _ _ _ us hl => match us, hl with | [_], _ => rfl
  obtain ⟨fd1, D1⟩ := c.def_ 1 (d := dd1) rfl
  have F1 : Fun K "is_at_least" "is_at_least" s_is_at_least (He.fAd K dd1.at_) fd1 := fun_of rfl rfl rfl rfl rfl rfl D1
  have b1 := F1.binds (ps := ["value", "low"]) fun _ _ _ _ _ _ us hl => match us, hl with | [_, _], _ => rfl
  obtain ⟨fd2, D2⟩ := c.def_ 2 (d := dd2) rfl
  have F2 : Fun K "is_between" "is_between" s_is_between (He.fAd K dd2.at_) fd2 := fun_of rfl rfl rfl rfl rfl rfl D2
  have b2 := F2.binds (ps := ["value", "low", "high"]) fun _ _ _ _ _ _ us hl => match us, hl with | [_, _, _], _ => rfl
  obtain ⟨fd3, D3⟩ := c.def_ 3 (d := dd3) rfl
  have F3 : Fun K "require_at_least" "require_at_least" s_require_at_least (He.fAd K dd3.at_) fd3 := fun_of rfl rfl rfl rfl rfl rfl D3
  have b3 := F3.binds (ps := ["value", "low", "name"]) fun _ _ _ _ _ _ us hl => match us, hl with | [_, _, _], _ => rfl
  obtain ⟨fd4, D4⟩ := c.def_ 4 (d := dd4) rfl
  have F4 : Fun K "require_places" "require_places" s_require_places (He.fAd K dd4.at_) fd4 := fun_of rfl rfl rfl rfl rfl rfl D4
  have b4 := F4.binds (ps := ["size", "targets"]) fun _ _ _ _ _ _ us hl => match us, hl with | [_, _], _ => rfl
  obtain ⟨fd5, D5⟩ := c.def_ 5 (d := dd5) rfl
  have F5 : Fun K "require_place" "require_place" s_require_place (He.fAd K dd5.at_) fd5 := fun_of rfl rfl rfl rfl rfl rfl D5
  have b5 := F5.binds (ps := ["size", "place", "name"]) fun _ _ _ _ _ _ us hl => match us, hl with | [_, _, _], _ => rfl
  obtain ⟨fd6, D6⟩ := c.def_ 6 (d := dd6) rfl
  have F6 : Fun K "require_counts" "require_counts" s_require_counts (He.fAd K dd6.at_) fd6 := fun_of rfl rfl rfl rfl rfl rfl D6
  have b6 := F6.binds (ps := ["targets", "counts"]) fun _ _ _ _ _ _ us hl => match us, hl with | [_, _], _ => rfl
  obtain ⟨fd7, D7⟩ := c.def_ 7 (d := dd7) rfl
  have F7 : Fun K "require_sum" "require_sum" s_require_sum (He.fAd K dd7.at_) fd7 := fun_of rfl rfl rfl rfl rfl rfl D7
  have b7 := F7.binds (ps := ["size", "targets", "place", "counts", "total"]) fun _ _ _ _ _ _ us hl => match us, hl with | [_, _, _, _, _], _ => rfl
  obtain ⟨fd8, D8⟩ := c.def_ 8 (d := dd8) rfl
  have F8 : Fun K "__init__" "Block.__init__" s_Block_init (He.fAd K dd8.at_) fd8 := fun_of rfl rfl rfl rfl rfl rfl D8
  have b8 := F8.binds (ps := ["self", "mean", "counts", "number"]) fun _ _ _ _ _ _ us hl => match us, hl with | [_, _, _, _], _ => rfl
  obtain ⟨fd9, D9⟩ := c.def_ 9 (d := dd9) rfl
  have F9 : Fun K "paired" "Block.paired" s_Block_paired (He.fAd K dd9.at_) fd9 := fun_of rfl rfl rfl rfl rfl rfl D9
  have b9 := F9.binds (ps := ["self"]) fun _ _ _ _ _ _ us hl => match us, hl with | [_], _ => rfl
  obtain ⟨fd10, D10⟩ := c.def_ 10 (d := dd10) rfl
  have F10 : Fun K "joined" "Block.joined" s_Block_joined (He.fAd K dd10.at_) fd10 := fun_of rfl rfl rfl rfl rfl rfl D10
  have b10 := F10.binds (ps := ["self", "other"]) fun _ _ _ _ _ _ us hl => match us, hl with | [_, _], _ => rfl
  obtain ⟨fd11, D11⟩ := c.def_ 11 (d := dd11) rfl
  have F11 : Fun K "next_blocks" "next_blocks" s_next_blocks (He.fAd K dd11.at_) fd11 := fun_of rfl rfl rfl rfl rfl rfl D11
  have b11 := F11.binds (ps := ["blocks"]) fun _ _ _ _ _ _ us hl => match us, hl with | [_], _ => rfl
  obtain ⟨fd12, D12⟩ := c.def_ 12 (d := dd12) rfl
  have F12 : Fun K "call_from_sum" "call_from_sum" s_call_from_sum (He.fAd K dd12.at_) fd12 := fun_of rfl rfl rfl rfl rfl rfl D12
  have b12 := F12.binds (ps := ["size", "targets", "place", "counts"]) fun _ _ _ _ _ _ us hl => match us, hl with | [_, _, _, _], _ => rfl
  obtain ⟨fd13, D13⟩ := c.def_ 13 (d := dd13) rfl
  have F13 : Fun K "_law_cell_at" "_law_cell_at" s_law_cell_at (He.fAd K dd13.at_) fd13 := fun_of rfl rfl rfl rfl rfl rfl D13
  have b13 := F13.binds (ps := ["_law_script", "_law_k"]) fun _ _ _ _ _ _ us hl => match us, hl with | [_, _], _ => rfl
  obtain ⟨fd14, D14⟩ := c.def_ 14 (d := dd14) rfl
  have F14 : Fun K "_law_source" "_law_source" s_law_source (He.fAd K dd14.at_) fd14 := fun_of rfl rfl rfl rfl rfl rfl D14
  have b14 := F14.binds (ps := ["_law_cell"]) fun _ _ _ _ _ _ us hl => match us, hl with | [_], _ => rfl
  obtain ⟨fd15, D15⟩ := c.def_ 15 (d := dd15) rfl
  have F15 : Fun K "_law_take" "_law_take" s_law_take (He.fAd K dd15.at_) fd15 := fun_of rfl rfl rfl rfl rfl rfl D15
  have b15 := F15.binds (ps := ["_law_source_here", "_law_bound"]) fun _ _ _ _ _ _ us hl => match us, hl with | [_, _], _ => rfl
  obtain ⟨fd16, D16⟩ := c.def_ 16 (d := dd16) rfl
  have F16 : Fun K "_law_large" "_law_large" s_law_large (He.fAd K dd16.at_) fd16 := fun_of rfl rfl rfl rfl rfl rfl D16
  have b16 := F16.binds (ps := ["_law_source_here", "_law_bound"]) fun _ _ _ _ _ _ us hl => match us, hl with | [_, _], _ => rfl
  obtain ⟨fd17, D17⟩ := c.def_ 17 (d := dd17) rfl
  have F17 : Fun K "_law_shuffled" "_law_shuffled" s_law_shuffled (He.fAd K dd17.at_) fd17 := fun_of rfl rfl rfl rfl rfl rfl D17
  have b17 := F17.binds (ps := ["_law_source_here", "_law_items"]) fun _ _ _ _ _ _ us hl => match us, hl with | [_, _], _ => rfl
  obtain ⟨fd18, D18⟩ := c.def_ 18 (d := dd18) rfl
  have F18 : Fun K "_law_gcd" "_law_gcd" s_law_gcd (He.fAd K dd18.at_) fd18 := fun_of rfl rfl rfl rfl rfl rfl D18
  have b18 := F18.binds (ps := ["_law_a", "_law_b"]) fun _ _ _ _ _ _ us hl => match us, hl with | [_, _], _ => rfl
  obtain ⟨fd19, D19⟩ := c.def_ 19 (d := dd19) rfl
  have F19 : Fun K "_law_inverse" "_law_inverse" s_law_inverse (He.fAd K dd19.at_) fd19 := fun_of rfl rfl rfl rfl rfl rfl D19
  have b19 := F19.binds (ps := ["_law_number", "_law_modulus"]) fun _ _ _ _ _ _ us hl => match us, hl with | [_, _], _ => rfl
  obtain ⟨fd20, D20⟩ := c.def_ 20 (d := dd20) rfl
  have F20 : Fun K "_law_targets" "_law_targets" s_law_targets (He.fAd K dd20.at_) fd20 := fun_of rfl rfl rfl rfl rfl rfl D20
  have b20 := F20.binds (ps := ["_law_source_here", "_law_ring", "_law_bound"]) fun _ _ _ _ _ _ us hl => match us, hl with | [_, _, _], _ => rfl
  obtain ⟨fd21, D21⟩ := c.def_ 21 (d := dd21) rfl
  have F21 : Fun K "_law_made" "_law_made" s_law_made (He.fAd K dd21.at_) fd21 := fun_of rfl rfl rfl rfl rfl rfl D21
  have b21 := F21.binds (ps := ["_law_source_here", "_law_ring", "_law_goals", "_law_depth"]) fun _ _ _ _ _ _ us hl => match us, hl with | [_, _, _, _], _ => rfl
  obtain ⟨fd22, D22⟩ := c.def_ 22 (d := dd22) rfl
  have F22 : Fun K "_law_is_sum" "_law_is_sum" s_law_is_sum (He.fAd K dd22.at_) fd22 := fun_of rfl rfl rfl rfl rfl rfl D22
  have b22 := F22.binds (ps := ["_law_ring", "_law_goals", "_law_spot", "_law_depth", "_law_amounts"]) fun _ _ _ _ _ _ us hl => match us, hl with | [_, _, _, _, _], _ => rfl
  obtain ⟨fd23, D23⟩ := c.def_ 23 (d := dd23) rfl
  have F23 : Fun K "_law_right" "_law_right" s_law_right (He.fAd K dd23.at_) fd23 := fun_of rfl rfl rfl rfl rfl rfl D23
  have b23 := F23.binds (ps := ["_law_ring", "_law_goals", "_law_spot", "_law_depth", "_law_amounts"]) fun _ _ _ _ _ _ us hl => match us, hl with | [_, _, _, _, _], _ => rfl
  obtain ⟨fd24, D24⟩ := c.def_ 24 (d := dd24) rfl
  have F24 : Fun K "law" "law" s_law (He.fAd K dd24.at_) fd24 := fun_of rfl rfl rfl rfl rfl rfl D24
  have b24 := F24.binds (ps := ["_law_script"]) fun _ _ _ _ _ _ us hl => match us, hl with | [_], _ => rfl
  refine ⟨{
    f_is_integer := He.fAd K dd0.at_, fd_is_integer := fd0, F_is_integer := F0, b_is_integer := b0, m_is_integer := He.glo_ok X G (c.fact 0 (f := .glo "is_integer") rfl),
    f_is_at_least := He.fAd K dd1.at_, fd_is_at_least := fd1, F_is_at_least := F1, b_is_at_least := b1, m_is_at_least := He.glo_ok X G (c.fact 1 (f := .glo "is_at_least") rfl),
    f_is_between := He.fAd K dd2.at_, fd_is_between := fd2, F_is_between := F2, b_is_between := b2, m_is_between := He.glo_ok X G (c.fact 2 (f := .glo "is_between") rfl),
    f_require_at_least := He.fAd K dd3.at_, fd_require_at_least := fd3, F_require_at_least := F3, b_require_at_least := b3, m_require_at_least := He.glo_ok X G (c.fact 3 (f := .glo "require_at_least") rfl),
    f_require_places := He.fAd K dd4.at_, fd_require_places := fd4, F_require_places := F4, b_require_places := b4, m_require_places := He.glo_ok X G (c.fact 4 (f := .glo "require_places") rfl),
    f_require_place := He.fAd K dd5.at_, fd_require_place := fd5, F_require_place := F5, b_require_place := b5, m_require_place := He.glo_ok X G (c.fact 5 (f := .glo "require_place") rfl),
    f_require_counts := He.fAd K dd6.at_, fd_require_counts := fd6, F_require_counts := F6, b_require_counts := b6, m_require_counts := He.glo_ok X G (c.fact 6 (f := .glo "require_counts") rfl),
    f_require_sum := He.fAd K dd7.at_, fd_require_sum := fd7, F_require_sum := F7, b_require_sum := b7, m_require_sum := He.glo_ok X G (c.fact 7 (f := .glo "require_sum") rfl),
    f_Block_init := He.fAd K dd8.at_, fd_Block_init := fd8, F_Block_init := F8, b_Block_init := b8,
    f_Block_paired := He.fAd K dd9.at_, fd_Block_paired := fd9, F_Block_paired := F9, b_Block_paired := b9,
    f_Block_joined := He.fAd K dd10.at_, fd_Block_joined := fd10, F_Block_joined := F10, b_Block_joined := b10,
    f_next_blocks := He.fAd K dd11.at_, fd_next_blocks := fd11, F_next_blocks := F11, b_next_blocks := b11, m_next_blocks := He.glo_ok X G (c.fact 8 (f := .glo "next_blocks") rfl),
    f_call_from_sum := He.fAd K dd12.at_, fd_call_from_sum := fd12, F_call_from_sum := F12, b_call_from_sum := b12, m_call_from_sum := He.glo_ok X G (c.fact 9 (f := .glo "call_from_sum") rfl),
    f_law_cell_at := He.fAd K dd13.at_, fd_law_cell_at := fd13, F_law_cell_at := F13, b_law_cell_at := b13, m_law_cell_at := He.glo_ok X G (c.fact 10 (f := .glo "_law_cell_at") rfl),
    f_law_source := He.fAd K dd14.at_, fd_law_source := fd14, F_law_source := F14, b_law_source := b14, m_law_source := He.glo_ok X G (c.fact 11 (f := .glo "_law_source") rfl),
    f_law_take := He.fAd K dd15.at_, fd_law_take := fd15, F_law_take := F15, b_law_take := b15, m_law_take := He.glo_ok X G (c.fact 12 (f := .glo "_law_take") rfl),
    f_law_large := He.fAd K dd16.at_, fd_law_large := fd16, F_law_large := F16, b_law_large := b16, m_law_large := He.glo_ok X G (c.fact 13 (f := .glo "_law_large") rfl),
    f_law_shuffled := He.fAd K dd17.at_, fd_law_shuffled := fd17, F_law_shuffled := F17, b_law_shuffled := b17, m_law_shuffled := He.glo_ok X G (c.fact 14 (f := .glo "_law_shuffled") rfl),
    f_law_gcd := He.fAd K dd18.at_, fd_law_gcd := fd18, F_law_gcd := F18, b_law_gcd := b18, m_law_gcd := He.glo_ok X G (c.fact 15 (f := .glo "_law_gcd") rfl),
    f_law_inverse := He.fAd K dd19.at_, fd_law_inverse := fd19, F_law_inverse := F19, b_law_inverse := b19, m_law_inverse := He.glo_ok X G (c.fact 16 (f := .glo "_law_inverse") rfl),
    f_law_targets := He.fAd K dd20.at_, fd_law_targets := fd20, F_law_targets := F20, b_law_targets := b20, m_law_targets := He.glo_ok X G (c.fact 17 (f := .glo "_law_targets") rfl),
    f_law_made := He.fAd K dd21.at_, fd_law_made := fd21, F_law_made := F21, b_law_made := b21, m_law_made := He.glo_ok X G (c.fact 18 (f := .glo "_law_made") rfl),
    f_law_is_sum := He.fAd K dd22.at_, fd_law_is_sum := fd22, F_law_is_sum := F22, b_law_is_sum := b22, m_law_is_sum := He.glo_ok X G (c.fact 19 (f := .glo "_law_is_sum") rfl),
    f_law_right := He.fAd K dd23.at_, fd_law_right := fd23, F_law_right := F23, b_law_right := b23, m_law_right := He.glo_ok X G (c.fact 20 (f := .glo "_law_right") rfl),
    f_law := He.fAd K dd24.at_, fd_law := fd24, F_law := F24, b_law := b24, m_law := He.glo_ok X G (c.fact 21 (f := .glo "law") rfl),
    C_Block := He.ga K "Block", cl_Block := He.cls_ok (c.fact 23 (f := .cls "Block") rfl), m_Block := He.glo_ok X G (c.fact 22 (f := .glo "Block") rfl),
    M_Block := He.mkr_ok (c.fact 24 (f := .mkr "Block") rfl),
    me_Block_paired := He.meth_ok (c.fact 25 (f := .meth "Block" "paired") rfl),
    me_Block_joined := He.meth_ok (c.fact 26 (f := .meth "Block" "joined") rfl),
    n_Block_mean := He.noat_ok (c.fact 27 (f := .noat "Block" "mean") rfl),
    n_Block_counts := He.noat_ok (c.fact 28 (f := .noat "Block" "counts") rfl),
    n_Block_number := He.noat_ok (c.fact 29 (f := .noat "Block" "number") rfl),
    z_abs := He.free_ok X G (c.fact 30 (f := .free "abs") rfl),
    z_bool := He.free_ok X G (c.fact 31 (f := .free "bool") rfl),
    z_enumerate := He.free_ok X G (c.fact 32 (f := .free "enumerate") rfl),
    z_int := He.free_ok X G (c.fact 33 (f := .free "int") rfl),
    z_isinstance := He.free_ok X G (c.fact 34 (f := .free "isinstance") rfl),
    z_len := He.free_ok X G (c.fact 35 (f := .free "len") rfl),
    z_list := He.free_ok X G (c.fact 36 (f := .free "list") rfl),
    z_min := He.free_ok X G (c.fact 37 (f := .free "min") rfl),
    z_range := He.free_ok X G (c.fact 38 (f := .free "range") rfl),
    z_repr := He.free_ok X G (c.fact 39 (f := .free "repr") rfl),
    z_sum := He.free_ok X G (c.fact 40 (f := .free "sum") rfl),
    z_tuple := He.free_ok X G (c.fact 41 (f := .free "tuple") rfl),
    z_zip := He.free_ok X G (c.fact 42 (f := .free "zip") rfl)
  }, He.glo_ok X G (c.fact 21 (f := .glo "law") rfl), fun s v => ?_⟩
  obtain ⟨oc, od, kV, doc, pm, an, cdv, ct, osl, h1, h2, h3⟩ := F24.ex
  show BindsTo s fd24 _ _
  rw [h1]
  exact .of_eq rfl
end CS
open PySem PySem.W PySem.Calls PyProof.Rows in
set_option maxRecDepth 100000 in
set_option maxHeartbeats 0 in
theorem PySem.Challenge.cw_calledseats_k56_calls_from_sums_holds : PySem.Challenge.rw_calledseats_k56_calls_from_sums.Holds := by
  w_on; o_law
  refine HandSHeadRun.head_any (r := OpenLaw.row PySem.Challenge.rw_calledseats_k56_calls_from_sums) (q := view (OpenLaw.row PySem.Challenge.rw_calledseats_k56_calls_from_sums).prog [30]) (H := CS.hk) (ob := CS.ob) (M := 30000) (loose := CS.loose) (d := HandSHeadRun.topDef (OpenLaw.row PySem.Challenge.rw_calledseats_k56_calls_from_sums).prog 30) (kwd := []) CS.ob_eq
    (by kernel_rfl) (fun s => by kernel_rfl) CS.runTop (by kernel_rfl) (by kernel_rfl) (by kernel_rfl) (by rfl) (by first | assumption | decide +kernel) (by decide +kernel) ⟨rfl, rfl, rfl, rfl, rfl, by decide +kernel⟩ ?hw ?hc
  case hw => w_witness2
  case hc =>
    refine CG.walk_ofG (l := PySem.Challenge.rw_calledseats_k56_calls_from_sums) (n := 63) (k := 7) (x := "_law_script") rfl (by decide) (by kernel_rfl) ⟨rfl, by decide, by decide⟩ ?F
    intro w mg fa h Y G hmg0
    obtain ⟨K, KX, c⟩ := Y
    have hmg : mg ("law" : PySem.Str) = some (.ref fa) := by
      have e : (HandSHeadRun.topDef (OpenLaw.row PySem.Challenge.rw_calledseats_k56_calls_from_sums).prog 30).name = ("law" : PySem.Str) := by kernel_rfl
      rw [← e]
      exact hmg0
    obtain ⟨T, e1, e2⟩ := CS.tx_of KX G c
    have e := hmg.symm.trans e1
    cases e
    exact ⟨K, T.fd_law, CS.sp_law K, KX, e2, fun H a ns hl _ hS => ⟨a, ns, rfl, hS, hl, fun _ => rfl⟩, fun base _ _ => CS.ok_law T⟩
